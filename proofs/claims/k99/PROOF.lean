import PyProof.Rows.All
import Wide.All
import OpenK.AllK
import Wide.FinOn
import HandS.ForMost
import HandS.Exc
import HandS.ExcInit
import HandS.TryOnly
import HandS.WordsExc
import HandS.CallSlots
import HandS.Evl
import HandS.Flow
import HandS.Strs
import HandS.Lambda
import HandS.TupAny
import HandS.Deep
import HandS.Walk
import HandS.Defaults
import HandS.IsInst
import HandS.SortInts
import HandS.Conv
import HandS.Dict
import HandS.Small
import HandS.ExcField
import OpenK.KCls
import HandS.TryMany
import HandS.ExcIs
import KE.KExcIs
import HandS.TupMul
import PyProof.ReprRoads
import HandS.Star
import KE.GoesMore
import PyProof.EnumMake
import HandS.Text
import HandS.SetFor
import HandS.SetTxtIn
import HandS.TupSets
import PyProof.StrWalks
import HandS.Style
import KE.KRevSl
import HandS.EndTab
import HandS.Head0
import HandS.Head1
import HandS.Head2
import HandS.HeadEnd
import HandS.HeadHook1
import HandS.HeadHook2
import HandS.HeadHook3
import HandS.HeadHook4
import PyProof.ListStr
import HandS.More
import KE.KDflt
import PyProof.NeKinds
import KE.LtSeq
import PyProof.SetRoads
import PyProof.AutoSeq1
import HandS.FStr
import HandS.StrMore
import HandS.ReplaceLit
import PyProof.DictUpdate
import PyProof.FactsAll.dict_4
import PyProof.FactsAll.dict_3
import HandS.MakeKwOnly
import KE.KExcInit
import KE.KExcStr
import PySem.Challenge.RW_prooforbar_k99_errors_by_hand
section
set_option Elab.async false
set_option linter.all false
set_option maxRecDepth 100000
set_option maxHeartbeats 2000000
set_option autoImplicit false
namespace DL
open PySem PySem.Spec PyProof.Rows L2

/-- the tables of code objects, the name of those that they tell -/
class TN where
  T : List (Addr × Str)
  fn : ∀ p ∈ T, ∀ p' ∈ T, p.1 = p'.1 → p.2 = p'.2
variable [TN]
/-! ## data and results -/
inductive D where
  | non | bl (b : Bool) | int (i : Int) | str (x : Str) | tup (l : List D) | lst (l : List D) | exc (c : Str) (x : D)

inductive R (α : Type) where
  | ok (a : α) | ex (c : Str) (x : D) | un

def R.bind {α β : Type} (r : R α) (f : α → R β) : R β :=
  match r with
  | .ok a => f a
  | .ex c x => .ex c x
  | .un => .un
instance : Monad R where
  pure := R.ok
  bind := R.bind
@[simp] theorem bind_ok {α β : Type} (a : α) (f : α → R β) : (R.ok a >>= f) = f a := rfl
@[simp] theorem bind_ex {α β : Type} (c : Str) (d : D) (f : α → R β) : ((R.ex c d : R α) >>= f) = .ex c d := rfl
@[simp] theorem bind_un {α β : Type} (f : α → R β) : ((R.un : R α) >>= f) = .un := rfl
@[simp] theorem pure_ok {α : Type} (a : α) : (pure a : R α) = .ok a := rfl

/-! ## the extension of abstract heaps -/
/-- not a table of code objects -/
def nt (o : HO) : Prop := ∀ ps, o ≠ .tbl ps
/-- what stands is kept; a table stays a table -/
structure Ex (H H' : Hp) : Prop where
  k : ∀ a o, H a = some o → nt o → H' a = some o
  t : ∀ a ps, H a = some (.tbl ps) → ∃ ps', H' a = some (.tbl ps')
theorem ho_cases (o : HO) : nt o ∨ ∃ ps, o = .tbl ps := by
  cases o with
  | tbl ps => exact .inr ⟨ps, rfl⟩
  | _ => exact .inl fun _ z => nomatch z
theorem Ex.refl (H : Hp) : Ex H H := ⟨fun _ _ h _ => h, fun _ ps h => ⟨ps, h⟩⟩
theorem Ex.trans {H H1 H2 : Hp} (a : Ex H H1) (b : Ex H1 H2) : Ex H H2 := ⟨fun x o h n => b.k x o (a.k x o h n) n, fun x ps h => by
  obtain ⟨ps1, h1⟩ := a.t x ps h
  exact b.t x ps1 h1⟩
theorem Ex.of {H H' : Hp} (e : ∀ a o, H a = some o → H' a = some o) : Ex H H' := ⟨fun a o h _ => e a o h, fun a ps h => ⟨ps, e a _ h⟩⟩
theorem Ex.new {H : Hp} {p : Addr} {o : HO} (h : H p = none) : Ex H (upd H p o) := .of fun a u e => by
  rw [upd_ne (ne_of_none e h)]
  exact e
theorem Ex.at {H H' : Hp} (e : Ex H H') {a : Addr} {o : HO} (h : H a = some o) (n : nt o := by intro _ z; exact nomatch z) : H' a = some o := e.k a o h n
theorem Ex.there {H H' : Hp} (e : Ex H H') {a : Addr} {o : HO} (h : H a = some o) : ∃ o', H' a = some o' := by
  rcases ho_cases o with n | ⟨ps, rfl⟩
  · exact ⟨_, e.k a o h n⟩
  · obtain ⟨ps', h'⟩ := e.t a ps h
    exact ⟨_, h'⟩
theorem Ex.back {H H' : Hp} (e : Ex H H') {p : Addr} (h : H' p = none) : H p = none := by
  cases q : H p with
  | none => rfl
  | some o =>
    obtain ⟨o', q'⟩ := e.there q
    rw [q'] at h
    cases h
theorem Ex.back' {B H H' : Hp} (_ : Ex B H') {p : Addr} (h : H p = none) (e : Ex B H) : B p = none := e.back h
theorem Ex.upd2 {H H' : Hp} (e : Ex H H') {p : Addr} {o : HO} : Ex (upd H p o) (upd H' p o) := ⟨fun a u h n => by
  by_cases q : a = p
  · subst q
    rw [upd_same] at h ⊢
    exact h
  · rw [upd_ne q] at h ⊢
    exact e.k a u h n, fun a ps h => by
  by_cases q : a = p
  · subst q
    rw [upd_same] at h ⊢
    exact ⟨ps, h⟩
  · rw [upd_ne q] at h ⊢
    exact e.t a ps h⟩
theorem Ex.over {H H' : Hp} (e : Ex H H') {p : Addr} {o : HO} (h : H' p = some o) : Ex (upd H p o) H' := ⟨fun a u q n => by
  by_cases z : a = p
  · subst z
    rw [upd_same] at q
    rw [h, ← q]
  · rw [upd_ne z] at q
    exact e.k a u q n, fun a ps q => by
  by_cases z : a = p
  · subst z
    rw [upd_same] at q
    exact ⟨ps, by rw [h, ← q]⟩
  · rw [upd_ne z] at q
    exact e.t a ps q⟩
theorem nt_frz {o : Obj} {u : HO} : nt (.frz o u) := fun _ z => nomatch z
theorem ex_rd {H H' : Hp} {a : Addr} {u : HO} (e : Ex H H') (h : Rd H a u) (n : nt u) : Rd H' a u := by
  rcases h with h | ⟨o, h⟩
  · exact Or.inl (e.k a _ h n)
  · exact Or.inr ⟨o, e.k a _ h nt_frz⟩
theorem ex_l {K : PySem.W.Frag} {H H' : Hp} {a : Addr} {xs : List V} (e : Ex H H') (h : SqL K H a xs) : SqL K H' a xs := by
  rcases h with h | h
  · exact Or.inl (ex_rd e h fun _ z => nomatch z)
  · exact Or.inr h
theorem ex_t {K : PySem.W.Frag} {H H' : Hp} {a : Addr} {xs : List V} (e : Ex H H') (h : SqT K H a xs) : SqT K H' a xs := by
  rcases h with h | h
  · exact Or.inl (ex_rd e h fun _ z => nomatch z)
  · exact Or.inr h
/-- the tables of code objects stay tables of such -/
def TX (H H' : Hp) : Prop := ∀ p ∈ TN.T, LamX.TabS H p.1 p.2 → LamX.TabS H' p.1 p.2
theorem TX.refl (H : Hp) : TX H H := fun _ _ h => h
theorem TX.trans {H H1 H2 : Hp} (a : TX H H1) (b : TX H1 H2) : TX H H2 := fun p hp h => b p hp (a p hp h)
theorem TX.of {H H' : Hp} (e : ∀ a o, H a = some o → H' a = some o) : TX H H' := fun _ _ h => h.ext e
theorem TX.new {H : Hp} {p : Addr} {o : HO} (h : H p = none) : TX H (upd H p o) := .of fun a u e => by
  rw [upd_ne (ne_of_none e h)]
  exact e
/-- an object that is neither a table nor a thing told by a predicate -/
def nx (o : HO) : Prop := nt o ∧ ∀ φ, o ≠ .ext φ
theorem TX.write {H : Hp} {p : Addr} {o u : HO} (h : H p = some u) (n : nx u) : TX H (upd H p o) := fun _ _ ⟨ps, h1, h2, h3⟩ => ⟨ps, by
  rw [upd_ne (fun z => by
    rw [z, h] at h1
    exact n.1 ps (Option.some.inj h1))]
  exact h1, h2, fun pos cv hc => by
    obtain ⟨c, e1, e2⟩ := h3 pos cv hc
    refine ⟨c, e1, ?_⟩
    rw [upd_ne (fun z => by
      rw [z, h] at e2
      exact n.2 _ (Option.some.inj e2))]
    exact e2⟩

/-! ## what represents data -/
/-- an own error class by its name: where it stands, the field that it keeps -/
structure Ctab where
  c : Str → Option (Addr × Str)
  m : Str → Option Str := fun _ => none
/-- an error object at a, of the class at C, its dict at d -/
def exv (a C d : Addr) : HO := .ext fun h => ∃ (oe : Obj) (vs : Array Value), h.get? a = some oe ∧ oe.cls = .ref C ∧ oe.dict = some d ∧ oe.data = .fields vs

/-- .. whose args stand at t -/
def exq (a C : Addr) (d : Option Addr) (t : Addr) : HO := .ext fun h => h.get? a = some ({ cls := .ref C, dict := d, data := .fields #[.ref t, .none, .none, .none, .bool false, .none] } : Obj)
/-- an error object of either kind -/
def ExL (u : HO) (a A dx : Addr) : Prop := u = exv a A dx ∨ ∃ t, u = exq a A (some dx) t
theorem ExL.nt {u : HO} {a A dx : Addr} (h : ExL u a A dx) : nt u := fun ps z => by
  rcases h with e | ⟨t, e⟩
  · rw [e] at z
    exact nomatch z
  · rw [e] at z
    exact nomatch z
/-- .. that stands in a heap -/
def AtE (H : Hp) (a A dx : Addr) : Prop := ∃ u, H a = some u ∧ ExL u a A dx
/-- an error object with the message m, if m is told -/
def ExAt (K : PySem.W.Frag) (F : Hp) (m : Option Str) (a A dx : Addr) : Prop := ∃ u, F a = some u ∧ ExL u a A dx ∧ ∀ x, m = some x → ∃ t, u = exq a A (some dx) t ∧ SqT K F t [.str x]
theorem ExAt.mono {K : PySem.W.Frag} {F F' : Hp} {m : Option Str} {a A dx : Addr} (e : Ex F F') (h : ExAt K F m a A dx) : ExAt K F' m a A dx := by
  obtain ⟨u, h1, h2, h3⟩ := h
  refine ⟨u, e.k a u h1 h2.nt, h2, fun x hx => ?_⟩
  obtain ⟨t, e1, e2⟩ := h3 x hx
  exact ⟨t, e1, ex_t e e2⟩
theorem ExAt.at_ {K : PySem.W.Frag} {F : Hp} {m : Option Str} {a A dx : Addr} (h : ExAt K F m a A dx) : AtE F a A dx := by
  obtain ⟨u, h1, h2, _⟩ := h
  exact ⟨u, h1, h2⟩
theorem AtE.mono {F F' : Hp} {a A dx : Addr} (e : Ex F F') (h : AtE F a A dx) : AtE F' a A dx := by
  obtain ⟨u, h1, h2⟩ := h
  exact ⟨u, e.k a u h1 h2.nt, h2⟩
theorem ExAt.of {K : PySem.W.Frag} {F : Hp} {m : Option Str} {a A dx : Addr} (hm : m = none) (h : F a = some (exv a A dx)) : ExAt K F m a A dx := ⟨_, h, .inl rfl, fun x hx => by
  rw [hm] at hx
  cases hx⟩

mutual
inductive Rp (K : PySem.W.Frag) (C : Ctab) (F : Hp) : V → D → Prop
  | non : Rp K C F .non .non
  | bl (b : Bool) : Rp K C F (.bl b) (.bl b)
  | int (i : Int) : Rp K C F (.int i) (.int i)
  | str (x : Str) : Rp K C F (.str x) (.str x)
  | tup {a : Addr} {vs : List V} {ds : List D} : SqT K F a vs → RpA K C F vs ds → Rp K C F (.ref a) (.tup ds)
  | lst {a : Addr} {vs : List V} {ds : List D} : F a = some (.lst vs) → RpA K C F vs ds → Rp K C F (.ref a) (.lst ds)
  | exc {a A dx : Addr} {f c : Str} {v : V} {d : D} : C.c c = some (A, f) → ExAt K F (C.m c) a A dx → F dx = some (.xd [(f, v)]) → Rp K C F v d → Rp K C F (.ref a) (.exc c d)
inductive RpA (K : PySem.W.Frag) (C : Ctab) (F : Hp) : List V → List D → Prop
  | nil : RpA K C F [] []
  | cons {v : V} {vs : List V} {d : D} {ds : List D} : Rp K C F v d → RpA K C F vs ds → RpA K C F (v :: vs) (d :: ds)
end
section
variable {K : PySem.W.Frag} {C : Ctab} {F F' : Hp}
mutual
theorem Rp.mono (e : Ex F F') : ∀ {v : V} {d : D}, Rp K C F v d → Rp K C F' v d
  | _, _, .non => .non
  | _, _, .bl b => .bl b
  | _, _, .int i => .int i
  | _, _, .str x => .str x
  | _, _, .tup h r => .tup (ex_t e h) (RpA.mono e r)
  | _, _, .lst h r => .lst (e.at h) (RpA.mono e r)
  | _, _, .exc h1 h2 h3 r => .exc h1 (h2.mono e) (e.at h3) (Rp.mono e r)
theorem RpA.mono (e : Ex F F') : ∀ {vs : List V} {ds : List D}, RpA K C F vs ds → RpA K C F' vs ds
  | _, _, .nil => .nil
  | _, _, .cons r t => .cons (Rp.mono e r) (RpA.mono e t)
end
theorem RpA.length : ∀ {vs : List V} {ds : List D}, RpA K C F vs ds → vs.length = ds.length
  | _, _, .nil => rfl
  | _, _, .cons _ t => congrArg (· + 1) (RpA.length t)
theorem RpA.get : ∀ {vs : List V} {ds : List D} {i : Nat} {d : D}, RpA K C F vs ds → ds[i]? = some d → ∃ v, vs[i]? = some v ∧ Rp K C F v d
  | _, _, _, _, .nil, e => by simp at e
  | _, _, 0, _, .cons r _, e => by
    simp at e
    subst e
    exact ⟨_, rfl, r⟩
  | _, _, i + 1, d, .cons _ t, e => by
    obtain ⟨v, h1, h2⟩ := RpA.get (i := i) (d := d) t (by simpa using e)
    exact ⟨v, by simpa using h1, h2⟩
theorem RpA.getV : ∀ {vs : List V} {ds : List D} {i : Nat} {v : V}, RpA K C F vs ds → vs[i]? = some v → ∃ d, ds[i]? = some d ∧ Rp K C F v d
  | _, _, _, _, .nil, e => by simp at e
  | _, _, 0, _, .cons r _, e => by
    simp at e
    subst e
    exact ⟨_, rfl, r⟩
  | _, _, i + 1, v, .cons _ t, e => by
    obtain ⟨d, h1, h2⟩ := RpA.getV (i := i) (v := v) t (by simpa using e)
    exact ⟨d, by simpa using h1, h2⟩
theorem RpA.append : ∀ {vs ws : List V} {ds es : List D}, RpA K C F vs ds → RpA K C F ws es → RpA K C F (vs ++ ws) (ds ++ es)
  | _, _, _, _, .nil, s => s
  | _, _, _, _, .cons r t, s => .cons r (RpA.append t s)
theorem RpA.one {v : V} {d : D} (r : Rp K C F v d) : RpA K C F [v] [d] := .cons r .nil
theorem RpA.drop : ∀ {vs : List V} {ds : List D} (n : Nat), RpA K C F vs ds → RpA K C F (vs.drop n) (ds.drop n)
  | _, _, 0, r => r
  | _, _, _ + 1, .nil => .nil
  | _, _, n + 1, .cons _ t => RpA.drop n t
theorem RpA.take : ∀ {vs : List V} {ds : List D} (n : Nat), RpA K C F vs ds → RpA K C F (vs.take n) (ds.take n)
  | _, _, 0, _ => .nil
  | _, _, _ + 1, .nil => .nil
  | _, _, n + 1, .cons r t => .cons r (RpA.take n t)
theorem RpA.set {v : V} {d : D} (r : Rp K C F v d) : ∀ {vs : List V} {ds : List D} (i : Nat), RpA K C F vs ds → RpA K C F (vs.set i v) (ds.set i d)
  | _, _, _, .nil => .nil
  | _, _, 0, .cons _ t => .cons r t
  | _, _, i + 1, .cons q t => .cons q (RpA.set r i t)
theorem RpA.ints : ∀ {vs : List V} {ns : List Int}, RpA K C F vs (ns.map D.int) → vs = ns.map V.int
  | _, [], .nil => rfl
  | _, n :: ns, .cons (.int _) t => by
    rw [RpA.ints t, List.map_cons]
theorem RpA.of_ints : ∀ (ns : List Int), RpA K C F (ns.map V.int) (ns.map D.int)
  | [] => .nil
  | n :: ns => .cons (.int n) (RpA.of_ints ns)
theorem RpA.strs : ∀ {vs : List V} {ns : List Str}, RpA K C F vs (ns.map D.str) → vs = ns.map V.str
  | _, [], .nil => rfl
  | _, n :: ns, .cons (.str _) t => by
    rw [RpA.strs t, List.map_cons]
theorem RpA.of_strs : ∀ (ns : List Str), RpA K C F (ns.map V.str) (ns.map D.str)
  | [] => .nil
  | n :: ns => .cons (.str n) (RpA.of_strs ns)
theorem RpA.bools : ∀ {vs : List V} {ns : List Bool}, RpA K C F vs (ns.map D.bl) → vs = ns.map V.bl
  | _, [], .nil => rfl
  | _, n :: ns, .cons (.bl _) t => by
    rw [RpA.bools t, List.map_cons]
end

/-! ## the environment -/
/-- what a name holds: nothing known; data; an own list; an own dict with its pairs; a list that is read only; something at a -/
inductive Sl where
  | no | d (x : D) | l (xs : List D) | k (a : Addr) (kvs : List (Key × D)) | q (xs : List D) | r (a : Addr)
def Sl.isOwn : Sl → Bool
  | .l _ => true
  | .k _ _ => true
  | _ => false
def RpK (K : PySem.W.Frag) (C : Ctab) (F : Hp) : List (Key × V) → List (Key × D) → Prop := Paired fun p q => p.1 = q.1 ∧ Rp K C F p.2 q.2
theorem RpK.mono {K : PySem.W.Frag} {C : Ctab} {F F' : Hp} (e : Ex F F') {ws : List (Key × V)} {kvs : List (Key × D)} (h : RpK K C F ws kvs) : RpK K C F' ws kvs :=
  Paired.mapP h fun _ _ q => ⟨q.1, q.2.mono e⟩

/-- what stays of the frozen part and of the callers' part -/
structure Bas (B F0 F H : Hp) : Prop where
  eb : Ex B H
  e0 : Ex F0 F
  ef : Ex F H
  fr : ∀ a o, B a = some o → F0 a = none → F a = none
  tb : TX B H

def SlOk (K : PySem.W.Frag) (C : Ctab) (B F H : Hp) (o : Option V) : Sl → Prop
  | .no => True
  | .d x => ∃ v, o = some v ∧ Rp K C F v x
  | .l xs => ∃ a vs, o = some (.ref a) ∧ B a = none ∧ F a = none ∧ H a = some (.lst vs) ∧ RpA K C F vs xs
  | .k a kvs => ∃ ws, o = some (.ref a) ∧ B a = none ∧ F a = none ∧ H a = some (.dK ws) ∧ RpK K C F ws kvs
  | .q xs => ∃ a vs, o = some (.ref a) ∧ SqL K F a vs ∧ RpA K C F vs xs
  | .r a => o = some (.ref a)

structure EnvOk (K : PySem.W.Frag) (C : Ctab) (B F0 F H : Hp) (σ : L2.St) (Γ : List Sl) : Prop extends Bas B F0 F H where
  len : σ.length = Γ.length
  sl : ∀ (i : Nat) (s : Sl), Γ[i]? = some s → ∃ o, σ[i]? = some o ∧ SlOk K C B F H o s
  sep : ∀ (i j : Nat) (s t : Sl) (a : Addr), i ≠ j → Γ[i]? = some s → Γ[j]? = some t → s.isOwn = true → t.isOwn = true → σ[i]? = some (some (.ref a)) → σ[j]? = some (some (.ref a)) → False

/-- the heap grows, nothing is changed, nothing of ours is frozen -/
structure Gr (F H F' H' : Hp) : Prop where
  f : Ex F F'
  h : Ex H H'
  fh : Ex F' H'
  n : ∀ a o, H a = some o → F a = none → F' a = none
  t : TX H H'
theorem Gr.refl {F H : Hp} (e : Ex F H) : Gr F H F H := ⟨Ex.refl _, Ex.refl _, e, fun _ _ _ h => h, TX.refl _⟩
theorem Gr.trans {F H F1 H1 F2 H2 : Hp} (a : Gr F H F1 H1) (b : Gr F1 H1 F2 H2) : Gr F H F2 H2 :=
  ⟨a.f.trans b.f, a.h.trans b.h, b.fh, fun x o h1 h2 => by
    obtain ⟨o', h3⟩ := a.h.there h1
    exact b.n x o' h3 (a.n x o h1 h2), a.t.trans b.t⟩
/-- a new object, frozen at once -/
theorem Gr.alloc {F H : Hp} (e : Ex F H) {p : Addr} {o : HO} (h : H p = none) : Gr F H (upd F p o) (upd H p o) :=
  ⟨Ex.new (e.back h), Ex.new h, e.upd2, fun a u h1 h2 => by
    rw [upd_ne (ne_of_none h1 h)]
    exact h2, TX.new h⟩
/-- a new object, not frozen -/
theorem Gr.own {F H : Hp} (e : Ex F H) {p : Addr} {o : HO} (h : H p = none) : Gr F H F (upd H p o) :=
  ⟨Ex.refl _, Ex.new h, e.trans (Ex.new h), fun _ _ _ q => q, TX.new h⟩

section
variable {K : PySem.W.Frag} {C : Ctab} {B F0 F H F' H' : Hp} {σ : L2.St} {Γ Γ' : List Sl}
theorem Bas.grow (b : Bas B F0 F H) (g : Gr F H F' H') : Bas B F0 F' H' :=
  ⟨b.eb.trans g.h, b.e0.trans g.f, g.fh, fun a o h1 h2 => by
    obtain ⟨o', h3⟩ := b.eb.there h1
    exact g.n a o' h3 (b.fr a o h1 h2), b.tb.trans g.t⟩
theorem SlOk.grow {o : Option V} {s : Sl} (g : Gr F H F' H') (h : SlOk K C B F H o s) : SlOk K C B F' H' o s := by
  cases s with
  | no => trivial
  | d x =>
    obtain ⟨v, e, r⟩ := h
    exact ⟨v, e, r.mono g.f⟩
  | l xs =>
    obtain ⟨a, vs, e, b, f, h, r⟩ := h
    exact ⟨a, vs, e, b, g.n _ _ h f, g.h.at h, r.mono g.f⟩
  | k a kvs =>
    obtain ⟨vs, e, b, f, h, r⟩ := h
    exact ⟨vs, e, b, g.n _ _ h f, g.h.at h, r.mono g.f⟩
  | q xs =>
    obtain ⟨a, vs, e, h, r⟩ := h
    exact ⟨a, vs, e, ex_l g.f h, r.mono g.f⟩
  | r a => exact h
theorem EnvOk.grow (E : EnvOk K C B F0 F H σ Γ) (g : Gr F H F' H') : EnvOk K C B F0 F' H' σ Γ :=
  ⟨E.toBas.grow g, E.len, fun i s e => by
    obtain ⟨o, h1, h2⟩ := E.sl i s e
    exact ⟨o, h1, h2.grow g⟩, E.sep⟩
theorem EnvOk.lt (E : EnvOk K C B F0 F H σ Γ) {i : Nat} {s : Sl} (e : Γ[i]? = some s) : i < σ.length := by
  rw [E.len]
  exact (List.getElem?_eq_some_iff.mp e).1
/-- an own slot's address is known to the heap -/
theorem EnvOk.own_at (E : EnvOk K C B F0 F H σ Γ) {i : Nat} {s : Sl} {a : Addr} (e : Γ[i]? = some s) (ow : s.isOwn = true) (h : σ[i]? = some (some (.ref a))) : (∃ o, H a = some o ∧ nx o) ∧ F a = none ∧ B a = none := by
  obtain ⟨o, h1, h2⟩ := E.sl i s e
  rw [h1] at h
  have ho : o = some (.ref a) := Option.some.inj h
  cases s with
  | no => exact absurd (show false = true from ow) Bool.false_ne_true
  | d x => exact absurd (show false = true from ow) Bool.false_ne_true
  | q x => exact absurd (show false = true from ow) Bool.false_ne_true
  | r x => exact absurd (show false = true from ow) Bool.false_ne_true
  | l xs =>
    obtain ⟨b, vs, e2, hb, hf, hh, _⟩ := h2
    rw [ho] at e2
    cases e2
    exact ⟨⟨_, hh, (fun _ z => nomatch z), (fun _ z => nomatch z)⟩, hf, hb⟩
  | k b kvs =>
    obtain ⟨vs, e2, hb, hf, hh, _⟩ := h2
    rw [ho] at e2
    cases e2
    exact ⟨⟨_, hh, (fun _ z => nomatch z), (fun _ z => nomatch z)⟩, hf, hb⟩
theorem EnvOk.set_d (E : EnvOk K C B F0 F H σ Γ) {v : V} {x : D} (i : Nat) (r : Rp K C F v x) : EnvOk K C B F0 F H (σ.set i (some v)) (Γ.set i (.d x)) := by
  refine ⟨E.toBas, by simp [E.len], fun j s e => ?_, fun j k s t a n e1 e2 o1 o2 h1 h2 => ?_⟩
  · by_cases q : i = j
    · subst q
      by_cases hl : i < Γ.length
      · rw [List.getElem?_set_self hl] at e
        cases e
        exact ⟨some v, List.getElem?_set_self (by rw [E.len]; exact hl), v, rfl, r⟩
      · rw [List.getElem?_eq_none (by simpa using hl)] at e
        cases e
    · rw [List.getElem?_set_ne q] at e ⊢
      exact E.sl j s e
  · by_cases q1 : i = j
    · subst q1
      by_cases hl : i < Γ.length
      · rw [List.getElem?_set_self hl] at e1
        cases e1
        exact absurd (show false = true from o1) Bool.false_ne_true
      · rw [List.getElem?_eq_none (by simpa using hl)] at e1
        cases e1
    · by_cases q2 : i = k
      · subst q2
        by_cases hl : i < Γ.length
        · rw [List.getElem?_set_self hl] at e2
          cases e2
          exact absurd (show false = true from o2) Bool.false_ne_true
        · rw [List.getElem?_eq_none (by simpa using hl)] at e2
          cases e2
      · rw [List.getElem?_set_ne q1] at e1 h1
        rw [List.getElem?_set_ne q2] at e2 h2
        exact E.sep j k s t a n e1 e2 o1 o2 h1 h2
/-- an own thing at a comes to a slot: at a nothing else of ours stands -/
theorem EnvOk.set_own (E : EnvOk K C B F0 F H σ Γ) {a : Addr} {s : Sl} (i : Nat) (h : SlOk K C B F H (some (.ref a)) s) (ne : ∀ j t, j ≠ i → Γ[j]? = some t → t.isOwn = true → σ[j]? = some (some (.ref a)) → False) :
    EnvOk K C B F0 F H (σ.set i (some (.ref a))) (Γ.set i s) := by
  refine ⟨E.toBas, by simp [E.len], fun j s' e => ?_, fun j k s' t b n e1 e2 o1 o2 h1 h2 => ?_⟩
  · by_cases q : i = j
    · subst q
      by_cases hl : i < Γ.length
      · rw [List.getElem?_set_self hl] at e
        cases e
        exact ⟨_, List.getElem?_set_self (by rw [E.len]; exact hl), h⟩
      · rw [List.getElem?_eq_none (by simpa using hl)] at e
        cases e
    · rw [List.getElem?_set_ne q] at e ⊢
      exact E.sl j s' e
  · have lt : ∀ {m : Nat} {w : V}, (σ.set i (some (.ref a)))[m]? = some (some w) → i = m → w = .ref a := fun {m w} hm em => by
      subst em
      by_cases hl : i < σ.length
      · rw [List.getElem?_set_self hl] at hm
        exact (Option.some.inj (Option.some.inj hm)).symm
      · rw [List.getElem?_eq_none (by simpa using hl)] at hm
        cases hm
    by_cases q1 : i = j
    · have q2 : i ≠ k := fun z => n (q1.symm.trans z)
      have eb := lt h1 q1
      cases eb
      rw [List.getElem?_set_ne q2] at e2 h2
      exact ne k t (Ne.symm q2) e2 o2 h2
    · by_cases q2 : i = k
      · have eb := lt h2 q2
        cases eb
        rw [List.getElem?_set_ne q1] at e1 h1
        exact ne j s' (Ne.symm q1) e1 o1 h1
      · rw [List.getElem?_set_ne q1] at e1 h1
        rw [List.getElem?_set_ne q2] at e2 h2
        exact E.sep j k s' t b n e1 e2 o1 o2 h1 h2
/-- a new list comes to a slot -/
theorem EnvOk.set_l (E : EnvOk K C B F0 F H σ Γ) {p : Addr} {vs : List V} {xs : List D} (i : Nat) (hp : H p = none) (r : RpA K C F vs xs) :
    EnvOk K C B F0 F (upd H p (.lst vs)) (σ.set i (some (.ref p))) (Γ.set i (.l xs)) := by
  have E' := E.grow (Gr.own (o := .lst vs) E.ef hp)
  refine E'.set_own i ⟨p, vs, rfl, E.eb.back hp, E.ef.back hp, upd_same, r⟩ fun j t _ e ow hs => ?_
  obtain ⟨⟨o, q, _⟩, _⟩ := E.own_at e ow hs
  rw [hp] at q
  cases q
theorem EnvOk.set_k (E : EnvOk K C B F0 F H σ Γ) {p : Addr} {ws : List (Key × V)} {kvs : List (Key × D)} (i : Nat) (hp : H p = none) (r : RpK K C F ws kvs) :
    EnvOk K C B F0 F (upd H p (.dK ws)) (σ.set i (some (.ref p))) (Γ.set i (.k p kvs)) := by
  have E' := E.grow (Gr.own (o := .dK ws) E.ef hp)
  refine E'.set_own i ⟨ws, rfl, E.eb.back hp, E.ef.back hp, upd_same, r⟩ fun j t _ e ow hs => ?_
  obtain ⟨⟨o, q, _⟩, _⟩ := E.own_at e ow hs
  rw [hp] at q
  cases q
/-- the own thing at a changes; F and B know nothing at a -/
theorem Ex.write {B H : Hp} (e : Ex B H) {a : Addr} {o : HO} (hb : B a = none) : Ex B (upd H a o) := ⟨fun c u h n => by
    rw [upd_ne (ne_of_none h hb)]
    exact e.k c u h n, fun c ps h => by
    rw [upd_ne (ne_of_none h hb)]
    exact e.t c ps h⟩
theorem Bas.write (b : Bas B F0 F H) {a : Addr} {o u : HO} (hb : B a = none) (hf : F a = none) (ha : H a = some u) (n : nx u) : Bas B F0 F (upd H a o) :=
  ⟨b.eb.write hb, b.e0, b.ef.write hf, b.fr, b.tb.trans (TX.write ha n)⟩
theorem SlOk.write {o : Option V} {s : Sl} {a : Addr} {u : HO} (h : SlOk K C B F H o s) (ne : s.isOwn = true → o ≠ some (.ref a)) : SlOk K C B F (upd H a u) o s := by
  cases s with
  | no => trivial
  | d x => exact h
  | q x => exact h
  | r x => exact h
  | l xs =>
    obtain ⟨b, vs, e, hb, hf, hh, r⟩ := h
    have q : b ≠ a := fun z => ne rfl (by rw [e, z])
    exact ⟨b, vs, e, hb, hf, by rw [upd_ne q]; exact hh, r⟩
  | k b kvs =>
    obtain ⟨vs, e, hb, hf, hh, r⟩ := h
    have q : b ≠ a := fun z => ne rfl (by rw [e, z])
    exact ⟨vs, e, hb, hf, by rw [upd_ne q]; exact hh, r⟩
theorem EnvOk.write (E : EnvOk K C B F0 F H σ Γ) {i : Nat} {a : Addr} {s s' : Sl} {u : HO} (e : Γ[i]? = some s) (ow : s.isOwn = true) (hσ : σ[i]? = some (some (.ref a))) (h' : SlOk K C B F (upd H a u) (some (.ref a)) s') :
    EnvOk K C B F0 F (upd H a u) σ (Γ.set i s') := by
  obtain ⟨⟨u0, ha, hnx⟩, hf, hb⟩ := E.own_at e ow hσ
  have hl : i < Γ.length := (List.getElem?_eq_some_iff.mp e).1
  refine ⟨E.toBas.write hb hf ha hnx, by simp [E.len], fun j t ej => ?_, fun j k t1 t2 b n e1 e2 o1 o2 h1 h2 => ?_⟩
  · by_cases q : i = j
    · subst q
      rw [List.getElem?_set_self hl] at ej
      cases ej
      exact ⟨_, hσ, h'⟩
    · rw [List.getElem?_set_ne q] at ej
      obtain ⟨o, h1, h2⟩ := E.sl j t ej
      exact ⟨o, h1, h2.write fun ot z => E.sep i j s t a q e ej ow ot hσ (by rw [h1, z])⟩
  · by_cases q1 : i = j
    · have q2 : i ≠ k := fun z => n (q1.symm.trans z)
      rw [List.getElem?_set_ne q2] at e2
      exact E.sep i k s t2 b q2 e e2 ow o2 (by rw [q1]; exact h1) h2
    · by_cases q2 : i = k
      · rw [List.getElem?_set_ne q1] at e1
        exact E.sep j i t1 s b (Ne.symm q1) e1 e o1 ow h1 (by rw [q2]; exact h2)
      · rw [List.getElem?_set_ne q1] at e1
        rw [List.getElem?_set_ne q2] at e2
        exact E.sep j k t1 t2 b n e1 e2 o1 o2 h1 h2

/-- the heap without a -/
def del (H : Hp) (a : Addr) : Hp := fun b => if b = a then none else H b
theorem del_ne' {H : Hp} {a b : Addr} (h : b ≠ a) : del H a b = H b := if_neg h
theorem del_at {H : Hp} {a : Addr} : del H a a = none := if_pos rfl
/-- the heap grows, the object at a changes, a stays ours -/
structure GrS (a : Addr) (F H F' H' : Hp) : Prop where
  f : Ex F F'
  h : Ex (del H a) H'
  fh : Ex F' H'
  n : ∀ b o, H b = some o → F b = none → F' b = none
  t : TX H H'
theorem EnvOk.growS (E : EnvOk K C B F0 F H σ Γ) {F' H' : Hp} {i : Nat} {a : Addr} {kvs kvs' : List (Key × D)} {ws' : List (Key × V)} (e : Γ[i]? = some (.k a kvs)) (g : GrS a F H F' H') (hH : H' a = some (.dK ws')) (r : RpK K C F' ws' kvs') :
    EnvOk K C B F0 F' H' σ (Γ.set i (.k a kvs')) := by
  obtain ⟨o, h1, ws, e2, hb, hf, hh, _⟩ := E.sl i _ e
  subst e2
  have hl : i < Γ.length := (List.getElem?_eq_some_iff.mp e).1
  have ne : ∀ {b : Addr} {u : HO}, B b = some u → b ≠ a := fun {b u} z q => by
    rw [q, hb] at z
    cases z
  have keep : ∀ {b : Addr} {u : HO}, b ≠ a → H b = some u → nt u → H' b = some u := fun {b u} n z nu => g.h.k b u (by rw [del_ne' n]; exact z) nu
  have eb' : Ex B (del H a) := ⟨fun b u z nu => by
    rw [del_ne' (ne z)]
    exact E.eb.k b u z nu, fun b ps z => by
    rw [del_ne' (ne z)]
    exact E.eb.t b ps z⟩
  refine ⟨⟨eb'.trans g.h, E.e0.trans g.f, g.fh, fun b u z z0 => by
    obtain ⟨u', z'⟩ := E.eb.there z
    exact g.n b u' z' (E.fr b u z z0), E.tb.trans g.t⟩, by simp [E.len], fun j s ej => ?_, fun j k s t b n e1 e2 o1 o2 g1 g2 => ?_⟩
  · by_cases q : i = j
    · subst q
      rw [List.getElem?_set_self hl] at ej
      cases ej
      exact ⟨_, h1, ws', rfl, hb, g.n _ _ hh hf, hH, r⟩
    · rw [List.getElem?_set_ne q] at ej
      obtain ⟨o, g1, g2⟩ := E.sl j s ej
      refine ⟨o, g1, ?_⟩
      cases s with
      | no => trivial
      | d x =>
        obtain ⟨v, e2, r2⟩ := g2
        exact ⟨v, e2, r2.mono g.f⟩
      | q x =>
        obtain ⟨b, ws, e2, b1, b2⟩ := g2
        exact ⟨b, ws, e2, ex_l g.f b1, b2.mono g.f⟩
      | r b => exact g2
      | l ys =>
        obtain ⟨b, ws, e2, b1, b2, b3, b4⟩ := g2
        have nb : b ≠ a := fun z => E.sep i j _ _ a q e ej rfl rfl h1 (by rw [g1, e2, z])
        exact ⟨b, ws, e2, b1, g.n _ _ b3 b2, keep nb b3 (fun _ z => nomatch z), b4.mono g.f⟩
      | k b kvs =>
        obtain ⟨ws, e2, b1, b2, b3, b4⟩ := g2
        have nb : b ≠ a := fun z => E.sep i j _ _ a q e ej rfl rfl h1 (by rw [g1, e2, z])
        exact ⟨ws, e2, b1, g.n _ _ b3 b2, keep nb b3 (fun _ z => nomatch z), b4.mono g.f⟩
  · by_cases q1 : i = j
    · have q2 : i ≠ k := fun z => n (q1.symm.trans z)
      rw [List.getElem?_set_ne q2] at e2
      exact E.sep i k _ t b q2 e e2 rfl o2 (by rw [q1]; exact g1) g2
    · by_cases q2 : i = k
      · rw [List.getElem?_set_ne q1] at e1
        exact E.sep j i s _ b (Ne.symm q1) e1 e o1 rfl g1 (by rw [q2]; exact g2)
      · rw [List.getElem?_set_ne q1] at e1
        rw [List.getElem?_set_ne q2] at e2
        exact E.sep j k s t b n e1 e2 o1 o2 g1 g2

/-- less is known -/
inductive Wk : List Sl → List Sl → Prop
  | nil : Wk [] []
  | keep {s : Sl} {a b : List Sl} : Wk a b → Wk (s :: a) (s :: b)
  | drop {s : Sl} {a b : List Sl} : Wk a b → Wk (s :: a) (.no :: b)
theorem Wk.refl : ∀ a : List Sl, Wk a a
  | [] => .nil
  | _ :: a => .keep (Wk.refl a)
theorem Wk.length : ∀ {a b : List Sl}, Wk a b → a.length = b.length
  | _, _, .nil => rfl
  | _, _, .keep h => congrArg (· + 1) h.length
  | _, _, .drop h => congrArg (· + 1) h.length
theorem Wk.at_ : ∀ {a b : List Sl} {i : Nat} {s : Sl}, Wk a b → b[i]? = some s → a[i]? = some s ∨ (s = .no ∧ ∃ t, a[i]? = some t)
  | _, _, _, _, .nil, e => by simp at e
  | _, _, 0, s, .keep _, e => by
    left
    simpa using e
  | _, _, 0, s, .drop (s := t) _, e => by
    right
    simp at e
    exact ⟨e.symm, t, rfl⟩
  | _, _, i + 1, s, .keep h, e => by
    have q := h.at_ (i := i) (s := s) (by simpa using e)
    simpa using q
  | _, _, i + 1, s, .drop h, e => by
    have q := h.at_ (i := i) (s := s) (by simpa using e)
    simpa using q
theorem EnvOk.weak (E : EnvOk K C B F0 F H σ Γ) (w : Wk Γ Γ') : EnvOk K C B F0 F H σ Γ' := by
  refine ⟨E.toBas, by rw [E.len, w.length], fun i s e => ?_, fun i j s t a n e1 e2 o1 o2 h1 h2 => ?_⟩
  · rcases w.at_ e with q | ⟨rfl, t, q⟩
    · exact E.sl i s q
    · obtain ⟨o, h1, _⟩ := E.sl i t q
      exact ⟨o, h1, trivial⟩
  · have f : ∀ {k : Nat} {u : Sl}, Γ'[k]? = some u → u.isOwn = true → Γ[k]? = some u := fun {k u} ek ou => by
      rcases w.at_ ek with q | ⟨rfl, _, _⟩
      · exact q
      · exact absurd (show false = true from ou) Bool.false_ne_true
    exact E.sep i j s t a n (f e1 o1) (f e2 o2) o1 o2 h1 h2
/-- an own list is frozen: from now on it is data -/
theorem EnvOk.freeze (E : EnvOk K C B F0 F H σ Γ) {i : Nat} {xs : List D} (e : Γ[i]? = some (.l xs)) :
    ∃ F', Ex F F' ∧ EnvOk K C B F0 F' H σ (Γ.set i (.d (.lst xs))) := by
  obtain ⟨o, h1, a, vs, rfl, hb, hf, hh, r⟩ := E.sl i _ e
  have hl : i < Γ.length := (List.getElem?_eq_some_iff.mp e).1
  have xF : Ex F (upd F a (.lst vs)) := Ex.new hf
  refine ⟨upd F a (.lst vs), xF, ⟨E.eb, E.e0.trans xF, E.ef.over hh, fun c u h2 h3 => ?_, E.tb⟩, by simp [E.len], fun j s ej => ?_, fun j k s t b n e1 e2 o1 o2 g1 g2 => ?_⟩
  · rw [upd_ne (ne_of_none h2 hb)]
    exact E.fr c u h2 h3
  · by_cases q : i = j
    · subst q
      rw [List.getElem?_set_self hl] at ej
      cases ej
      exact ⟨_, h1, _, rfl, .lst upd_same (r.mono xF)⟩
    · rw [List.getElem?_set_ne q] at ej
      obtain ⟨o, g1, g2⟩ := E.sl j s ej
      refine ⟨o, g1, ?_⟩
      cases s with
      | no => trivial
      | d x =>
        obtain ⟨v, e2, r2⟩ := g2
        exact ⟨v, e2, r2.mono xF⟩
      | q x =>
        obtain ⟨b, ws, e2, b1, b2⟩ := g2
        exact ⟨b, ws, e2, ex_l xF b1, b2.mono xF⟩
      | r b => exact g2
      | l ys =>
        obtain ⟨b, ws, e2, b1, b2, b3, b4⟩ := g2
        have nb : b ≠ a := fun z => E.sep i j _ _ a q e ej rfl rfl h1 (by rw [g1, e2, z])
        exact ⟨b, ws, e2, b1, by rw [upd_ne nb]; exact b2, b3, b4.mono xF⟩
      | k b kvs =>
        obtain ⟨ws, e2, b1, b2, b3, b4⟩ := g2
        have nb : b ≠ a := fun z => E.sep i j _ _ a q e ej rfl rfl h1 (by rw [g1, e2, z])
        exact ⟨ws, e2, b1, by rw [upd_ne nb]; exact b2, b3, b4.mono xF⟩
  · have f : ∀ {k : Nat} {u : Sl}, (Γ.set i (.d (.lst xs)))[k]? = some u → u.isOwn = true → Γ[k]? = some u := fun {k u} ek ou => by
      by_cases q : i = k
      · subst q
        rw [List.getElem?_set_self hl] at ek
        cases ek
        exact absurd (show false = true from ou) Bool.false_ne_true
      · rw [List.getElem?_set_ne q] at ek
        exact ek
    exact E.sep j k s t b n (f e1 o1) (f e2 o2) o1 o2 g1 g2
end
end DL
end
section
set_option Elab.async false
set_option linter.all false
set_option maxRecDepth 100000
set_option maxHeartbeats 2000000
set_option autoImplicit false
namespace DL
open PySem PySem.Spec PyProof.Rows L2
variable [TN]

def R.of {α : Type} : Option α → R α
  | some a => .ok a
  | none => .un
@[simp] theorem of_some {α : Type} (a : α) : R.of (some a) = .ok a := rfl
@[simp] theorem of_none {α : Type} : (R.of none : R α) = .un := rfl

/-! ## where one stands; what is wanted -/
structure G where
  X : Cx
  C : Ctab
  W : WX
  B : Hp
  F0 : Hp
  /-- where exceptions go -/
  tk : Takes X W
  /-- whether it must be known that no repr is under way -/
  b : Bool
  gd : b = true → X.A.guards = some []
  /-- the tables of code objects -/
  hT : LamX.Tabs TN.T B
theorem G.ps (g : G) : ∀ σ, PassesAt (L2.CX g.X.prog g.X.w) g.X σ (WE g.W σ) := fun σ => passAt g.tk σ
theorem G.tabs (g : G) {F H : Hp} (b : Bas g.B g.F0 F H) : LamX.Tabs TN.T H := fun p hp => b.tb p hp (g.hT p hp)
abbrev G.Env (g : G) (F H : Hp) (σ : L2.St) (Γ : List Sl) : Prop := EnvOk g.X.K g.C g.B g.F0 F H σ Γ
/-- an exception of the class c that keeps x -/
def ExR (K : PySem.W.Frag) (C : Ctab) (F : Hp) (cl : Value) (dx : Addr) (c : Str) (x : D) : Prop := ∃ A f v, C.m c = none ∧ C.c c = some (A, f) ∧ cl = .ref A ∧ F dx = some (.xd [(f, v)]) ∧ Rp K C F v x

/-- how a result is borne: H0 the heap ahead, F H behind -/
structure Rep (β α : Type) where
  r : Hp → Hp → Hp → β → α → Prop
  back : ∀ {H0 H1 F H : Hp} {b : β} {a : α}, (∀ p, H1 p = none → H0 p = none) → r H1 F H b a → r H0 F H b a
  grow : ∀ {H0 F H F' H' : Hp} {b : β} {a : α}, Gr F H F' H' → r H0 F H b a → r H0 F' H' b a
/-- frozen data -/
def rD (K : PySem.W.Frag) (C : Ctab) : Rep V D := ⟨fun _ F _ v d => Rp K C F v d, fun _ h => h, fun g h => h.mono g.f⟩
/-- data that may be read now -/
def rR (K : PySem.W.Frag) (C : Ctab) : Rep V D := ⟨fun _ _ H v d => Rp K C H v d, fun _ h => h, fun g h => h.mono g.h⟩
/-- a list that may be read now, its items frozen -/
def rL (K : PySem.W.Frag) (C : Ctab) : Rep V (List D) := ⟨fun _ F H v xs => ∃ p vs, v = .ref p ∧ SqL K H p vs ∧ RpA K C F vs xs, fun _ h => h, fun g ⟨p, vs, e, h, r⟩ => ⟨p, vs, e, ex_l g.h h, r.mono g.f⟩⟩
/-- a list that stands there as it is, its items frozen -/
def rM (K : PySem.W.Frag) (C : Ctab) : Rep V (List D) := ⟨fun _ F H v xs => ∃ p vs, v = .ref p ∧ H p = some (.lst vs) ∧ RpA K C F vs xs, fun _ h => h, fun g ⟨p, vs, e, h, r⟩ => ⟨p, vs, e, g.h.at h, r.mono g.f⟩⟩
/-- a new list -/
def rN (K : PySem.W.Frag) (C : Ctab) : Rep V (List D) := ⟨fun H0 F H v xs => ∃ p vs, v = .ref p ∧ H0 p = none ∧ F p = none ∧ H p = some (.lst vs) ∧ RpA K C F vs xs,
  fun e ⟨p, vs, e1, h, r⟩ => ⟨p, vs, e1, e p h, r⟩, fun g ⟨p, vs, e, h0, hf, h, r⟩ => ⟨p, vs, e, h0, g.n _ _ h hf, g.h.at h, r.mono g.f⟩⟩
def rB : Rep Bool Bool := ⟨fun _ _ _ b a => b = a, fun _ h => h, fun _ h => h⟩
def rA (K : PySem.W.Frag) (C : Ctab) : Rep (List V) (List D) := ⟨fun _ F _ v d => RpA K C F v d, fun _ h => h, fun g h => h.mono g.f⟩

section
variable {α β : Type}
def Post (g : G) (ρ : Rep β α) (F H : Hp) (σ : L2.St) (Q : β → Hp → Prop) : R α → Prop
  | .ok a => ∀ b F' H', Gr F H F' H' → ρ.r H F' H' b a → Q b H'
  | .ex c x => ∀ cl dx F' H', Gr F H F' H' → ExR g.X.K g.C F' cl dx c x → g.W cl (some dx) σ H'
  | .un => False
def PostV (ρ : Rep β α) (F H : Hp) (Q : β → Hp → Prop) : Option α → Prop
  | some a => ∀ b F' H', Gr F H F' H' → ρ.r H F' H' b a → Q b H'
  | none => False
theorem Post.mono {g : G} {ρ : Rep β α} {F H F1 H1 : Hp} {σ : L2.St} {Q : β → Hp → Prop} {r : R α} (h : Post g ρ F H σ Q r) (gr : Gr F H F1 H1) : Post g ρ F1 H1 σ Q r := by
  cases r with
  | ok a => exact fun b F' H' g' r => h b F' H' (gr.trans g') (ρ.back (fun _ => gr.h.back) r)
  | ex c x => exact fun cl dx F' H' g' r => h cl dx F' H' (gr.trans g') r
  | un => exact h
theorem Post.seq {α1 β1 : Type} {g : G} {ρ : Rep β α} {ρ1 : Rep β1 α1} {F H : Hp} {σ : L2.St} {Q : β → Hp → Prop} {Q1 : β1 → Hp → Prop} {r : R α1} {k : α1 → R α} (h : Post g ρ F H σ Q (r >>= k))
    (go : ∀ a b F1 H1, Gr F H F1 H1 → ρ1.r H F1 H1 b a → Post g ρ F1 H1 σ Q (k a) → Q1 b H1) : Post g ρ1 F H σ Q1 r := by
  cases r with
  | ok a =>
    have h' : Post g ρ F H σ Q (k a) := h
    exact fun b F1 H1 g1 r1 => go a b F1 H1 g1 r1 (h'.mono g1)
  | ex c x => exact h
  | un => exact (show False from h).elim
theorem Post.ofV {g : G} {ρ : Rep β α} {F H : Hp} {σ : L2.St} {Q : β → Hp → Prop} {r : Option α} (h : Post g ρ F H σ Q (R.of r)) : PostV ρ F H Q r := by
  cases r with
  | none => exact h
  | some a => exact h
theorem PostV.mono {ρ : Rep β α} {F H F1 H1 : Hp} {Q : β → Hp → Prop} {r : Option α} (h : PostV ρ F H Q r) (gr : Gr F H F1 H1) : PostV ρ F1 H1 Q r := by
  cases r with
  | some a => exact fun b F' H' g' r => h b F' H' (gr.trans g') (ρ.back (fun _ => gr.h.back) r)
  | none => exact h
/-- the answer at once -/
theorem Post.here {g : G} {ρ : Rep β α} {F H : Hp} {σ : L2.St} {Q : β → Hp → Prop} {a : α} {b : β} (h : Post g ρ F H σ Q (.ok a)) (e : Ex F H) (r : ρ.r H F H b a) : Q b H := h b F H (Gr.refl e) r
end

/-! ## the judgements -/
def wE (X : Cx) (e : Expr) : TE := fun σ H Q => ∀ pins s, Inv X pins σ H s → wpAny (model X.prog X.w) X.A (eval e X.env) (EP X pins σ Q) X.xe s
theorem pe_w (X : Cx) (e : Expr) : PE X e (wE X e) := ⟨fun pins s _ _ _ I h => h pins s I⟩
theorem wE_of {X : Cx} {e : Expr} {t : TE} (p : PE X e t) {σ : L2.St} {H : Hp} {Q : VK} (h : t σ H Q) : wE X e σ H Q := fun pins s I => p.run pins s σ H Q I h
def wT (X : Cx) (e : Expr) : TT := fun σ H Q => ∀ (whole : Sem Value) pins s, whole = eval e X.env → Inv X pins σ H s → wpAny (model X.prog X.w) X.A (isTrue e X.env whole) (TP X pins σ Q) X.xe s
theorem pt_w (X : Cx) (e : Expr) : PT X e (wT X e) := ⟨fun pins s _ _ _ I h => h _ pins s rfl I⟩
theorem wT_of {X : Cx} {e : Expr} {t : TT} (p : PT X e t) {σ : L2.St} {H : Hp} {Q : Bool → Hp → Prop} (h : t σ H Q) : wT X e σ H Q := fun whole pins s ew I => by
  subst ew
  exact p.run pins s σ H Q I h
def wW (X : Cx) (e : Expr) : TT := fun σ H Q => ∀ (whole : Sem Value) pins s, Inv X pins σ H s → wpAny (model X.prog X.w) X.A (isTrue e X.env whole) (TP X pins σ Q) X.xe s
theorem pw_w (X : Cx) (e : Expr) : PW X e (wW X e) := ⟨fun whole pins s _ _ _ I h => h whole pins s I⟩
theorem wW_of {X : Cx} {e : Expr} {t : TT} (p : PW X e t) {σ : L2.St} {H : Hp} {Q : Bool → Hp → Prop} (h : t σ H Q) : wW X e σ H Q := fun whole pins s I => p.run whole pins s σ H Q I h
def wA (X : Cx) (es : List Expr) : TA := fun σ H Q => ∀ (pos : Pos) pins s, Inv X pins σ H s → wpAny (model X.prog X.w) X.A (spliced (backTo pos (starEach es X.env))) (AP X pins σ Q) X.xe s
theorem pa_w (X : Cx) (es : List Expr) : PA X es (wA X es) := ⟨fun pos pins s _ _ _ I h => h pos pins s I⟩
theorem wA_of {X : Cx} {es : List Expr} {t : TA} (p : PA X es t) {σ : L2.St} {H : Hp} {Q : List V → Hp → Prop} (h : t σ H Q) : wA X es σ H Q := fun pos pins s I => p.run pos pins s σ H Q I h

section
variable {α : Type}
/-- e gives r, borne by ρ -/
structure CG (g : G) (ρ : Rep V α) (e : Expr) (Γ : List Sl) (r : R α)  : Prop where
  h : ∀ F H σ Q, g.Env F H σ Γ → Post g ρ F H σ Q r → wE g.X e σ H Q
instance (g : G) (ρ : Rep V α) (e : Expr) (Γ : List Sl) (r : R α)  : CoeFun (CG g ρ e Γ r) (fun _ => ∀ F H σ Q, g.Env F H σ Γ → Post g ρ F H σ Q r → wE g.X e σ H Q) := ⟨CG.h⟩
abbrev CE (g : G) (e : Expr) (Γ : List Sl) (r : R D) : Prop := CG g (rD g.X.K g.C) e Γ r
abbrev CR (g : G) (e : Expr) (Γ : List Sl) (r : R D) : Prop := CG g (rR g.X.K g.C) e Γ r
abbrev CL (g : G) (e : Expr) (Γ : List Sl) (r : R (List D)) : Prop := CG g (rL g.X.K g.C) e Γ r
abbrev CM (g : G) (e : Expr) (Γ : List Sl) (r : R (List D)) : Prop := CG g (rM g.X.K g.C) e Γ r
abbrev CN (g : G) (e : Expr) (Γ : List Sl) (r : R (List D)) : Prop := CG g (rN g.X.K g.C) e Γ r
structure CT (g : G) (e : Expr) (Γ : List Sl) (r : R Bool)  : Prop where
  h : ∀ F H σ Q, g.Env F H σ Γ → Post g rB F H σ Q r → wT g.X e σ H Q
instance (g : G) (e : Expr) (Γ : List Sl) (r : R Bool)  : CoeFun (CT g e Γ r) (fun _ => ∀ F H σ Q, g.Env F H σ Γ → Post g rB F H σ Q r → wT g.X e σ H Q) := ⟨CT.h⟩
structure CW (g : G) (e : Expr) (Γ : List Sl) (r : R Bool)  : Prop where
  h : ∀ F H σ Q, g.Env F H σ Γ → Post g rB F H σ Q r → wW g.X e σ H Q
instance (g : G) (e : Expr) (Γ : List Sl) (r : R Bool)  : CoeFun (CW g e Γ r) (fun _ => ∀ F H σ Q, g.Env F H σ Γ → Post g rB F H σ Q r → wW g.X e σ H Q) := ⟨CW.h⟩
structure CA (g : G) (es : List Expr) (Γ : List Sl) (r : R (List D))  : Prop where
  h : ∀ F H σ Q, g.Env F H σ Γ → Post g (rA g.X.K g.C) F H σ Q r → wA g.X es σ H Q
instance (g : G) (es : List Expr) (Γ : List Sl) (r : R (List D))  : CoeFun (CA g es Γ r) (fun _ => ∀ F H σ Q, g.Env F H σ Γ → Post g (rA g.X.K g.C) F H σ Q r → wA g.X es σ H Q) := ⟨CA.h⟩
end

section
variable {g : G} {Γ : List Sl} {e a b c : Expr} {pos : Pos}
/-! ### one kind of bearing from another -/
theorem CE.r {r : R D} (h : CE g e Γ r) : CR g e Γ r := .mk fun F H σ Q E p => h F H σ Q E (by
  cases r with
  | ok x => exact fun v F' H' gr rp => p v F' H' gr (rp.mono gr.fh)
  | ex c x => exact p
  | un => exact p)
theorem CM.r {r : R (List D)} (h : CM g e Γ r) : CR g e Γ (r >>= fun xs => .ok (.lst xs)) := .mk fun F H σ Q E p => h F H σ Q E (by
  cases r with
  | ok x => exact fun v F' H' gr ⟨q, vs, ev, hs, ra⟩ => p v F' H' gr (by subst ev; exact .lst hs (ra.mono gr.fh))
  | ex c x => exact p
  | un => exact p)
theorem CM.l {r : R (List D)} (h : CM g e Γ r) : CL g e Γ r := .mk fun F H σ Q E p => h F H σ Q E (by
  cases r with
  | ok x => exact fun v F' H' gr ⟨q, vs, ev, hs, ra⟩ => p v F' H' gr ⟨q, vs, ev, SqL.of hs, ra⟩
  | ex c x => exact p
  | un => exact p)
theorem CN.m {r : R (List D)} (h : CN g e Γ r) : CM g e Γ r := .mk fun F H σ Q E p => h F H σ Q E (by
  cases r with
  | ok x => exact fun v F' H' gr ⟨q, vs, ev, _, _, hs, ra⟩ => p v F' H' gr ⟨q, vs, ev, hs, ra⟩
  | ex c x => exact p
  | un => exact p)
/-- a new list frozen at once -/
theorem CN.fz {r : R (List D)} (h : CN g e Γ r) : CE g e Γ (r >>= fun xs => .ok (.lst xs)) := .mk fun F H σ Q E p => h F H σ Q E (by
  cases r with
  | ok x =>
    intro v F' H' gr ⟨q, vs, ev, h0, hf, hs, ra⟩
    subst ev
    have xF : Ex F' (upd F' q (.lst vs)) := Ex.new hf
    exact p _ (upd F' q (.lst vs)) H' ⟨gr.f.trans xF, gr.h, gr.fh.over hs, fun c u h1 h2 => by
      rw [upd_ne (ne_of_none h1 h0)]
      exact gr.n c u h1 h2, gr.t⟩ (.lst upd_same (ra.mono xF))
  | ex c x => exact p
  | un => exact p)
/-- data as a list -/
def D.asL : D → Option (List D)
  | .lst xs => some xs
  | _ => none
@[simp] theorem asL_lst (xs : List D) : (D.lst xs).asL = some xs := rfl
theorem CE.m {r : R D} (h : CE g e Γ r) : CM g e Γ (r >>= fun x => .of x.asL) := .mk fun F H σ Q E p => h F H σ Q E (by
  cases r with
  | ok x =>
    intro v F' H' gr rp
    cases x with
    | lst xs =>
      cases rp with
      | lst hs ra => exact p _ F' H' gr ⟨_, _, rfl, gr.fh.at hs, ra⟩
    | _ => exact (show False from p).elim
  | ex c x => exact p
  | un => exact p)

/-! ### names, constants -/
theorem ce_var (i : Nat) {x : D} {n : Str} (hs : Γ[i]? = some (.d x) := by rfl) (hN : g.X.N[i]? = some n := by rfl)
    (hv : Vis g.X.env.scope n := by first | exact Or.inl rfl | exact Or.inr (Or.inl rfl) | exact Or.inr (Or.inr rfl)) (hd : (n == ("__debug__" : Str)) = false := by decide) (hcd : (n == ("__classdict__" : Str)) = false := by decide) :
    CE g (.Name n pos) Γ (.ok x) := .mk fun F H σ Q E p => by
  obtain ⟨o, h1, v, e2, r⟩ := E.sl i _ hs
  subst e2
  exact wE_of (pe_var hN hv hd hcd) ⟨v, h1, p.here E.ef r⟩
theorem cm_var (i : Nat) {xs : List D} {n : Str} (hs : Γ[i]? = some (.l xs) := by rfl) (hN : g.X.N[i]? = some n := by rfl)
    (hv : Vis g.X.env.scope n := by first | exact Or.inl rfl | exact Or.inr (Or.inl rfl) | exact Or.inr (Or.inr rfl)) (hd : (n == ("__debug__" : Str)) = false := by decide) (hcd : (n == ("__classdict__" : Str)) = false := by decide) :
    CM g (.Name n pos) Γ (.ok xs) := .mk fun F H σ Q E p => by
  obtain ⟨o, h1, a, vs, e2, hb, hf, hh, r⟩ := E.sl i _ hs
  subst e2
  exact wE_of (pe_var hN hv hd hcd) ⟨_, h1, p.here E.ef ⟨a, vs, rfl, hh, r⟩⟩
theorem cl_var (i : Nat) {xs : List D} {n : Str} (hs : Γ[i]? = some (.q xs) := by rfl) (hN : g.X.N[i]? = some n := by rfl)
    (hv : Vis g.X.env.scope n := by first | exact Or.inl rfl | exact Or.inr (Or.inl rfl) | exact Or.inr (Or.inr rfl)) (hd : (n == ("__debug__" : Str)) = false := by decide) (hcd : (n == ("__classdict__" : Str)) = false := by decide) :
    CL g (.Name n pos) Γ (.ok xs) := .mk fun F H σ Q E p => by
  obtain ⟨o, h1, a, vs, e2, hh, r⟩ := E.sl i _ hs
  subst e2
  exact wE_of (pe_var hN hv hd hcd) ⟨_, h1, p.here E.ef ⟨a, vs, rfl, ex_l E.ef hh, r⟩⟩
theorem ce_int {i : Int} {j : Nat} : CE g (.Constant (.int i) j pos) Γ (.ok (.int i)) := .mk fun F H σ Q E p => wE_of pe_int (p.here E.ef (.int i))
theorem ce_bl {i : Bool} {j : Nat} : CE g (.Constant (.bool i) j pos) Γ (.ok (.bl i)) := .mk fun F H σ Q E p => wE_of pe_bl (p.here E.ef (.bl i))
theorem ce_non {j : Nat} : CE g (.Constant .none j pos) Γ (.ok .non) := .mk fun F H σ Q E p => wE_of pe_non (p.here E.ef .non)
theorem ce_str {i : Str} {j : Nat} : CE g (.Constant (.str i) j pos) Γ (.ok (.str i)) := .mk fun F H σ Q E p => wE_of pe_str (p.here E.ef (.str i))
/-- a module's constant: a value of the written part -/
theorem ce_glob {x : Str} {v : V} {u : Value} {d : D} (hg : Gl g.X x) (hm : g.X.mg x = some u) (r : RelV v u) (rp : ∀ F, Rp g.X.K g.C F v d) (hd : (x == ("__debug__" : Str)) = false := by decide) : CE g (.Name x pos) Γ (.ok d) :=
  .mk fun F H σ Q E p => wE_of (pe_glob hg hm r hd) (p.here E.ef (rp F))

/-! ### operators -/
section
variable {α β γ : Type}
/-- a two-place operation by values -/
def OpD (X : Cx) (f : Value → Value → Sem Value) (ρ1 : Rep V α) (ρ2 : Rep V β) (ρ : Rep V γ) (h : α → β → Option γ) : Prop :=
  ∃ r : R2, OpR X f r ∧ ∀ (F H H0 H1 : Hp) (x y : V) (dx : α) (dy : β) (Q : VK), Ex F H → ρ1.r H0 F H x dx → ρ2.r H1 F H y dy → PostV ρ F H Q (h dx dy) → r x y H Q
theorem op2 {ρ1 : Rep V α} {ρ2 : Rep V β} {ρ : Rep V γ} {h : α → β → Option γ} {r : R2} {ra : R α} {rb : R β} {F H : Hp} {σ : L2.St} {Q : VK}
    (hr : ∀ (F H H0 H1 : Hp) (x y : V) (dx : α) (dy : β) (Q : VK), Ex F H → ρ1.r H0 F H x dx → ρ2.r H1 F H y dy → PostV ρ F H Q (h dx dy) → r x y H Q)
    (ha : CG g ρ1 a Γ ra) (hb : CG g ρ2 b Γ rb) (E : g.Env F H σ Γ) (p : Post g ρ F H σ Q (ra >>= fun x => rb >>= fun y => .of (h x y))) : tOp r (wE g.X a) (wE g.X b) σ H Q :=
  ha F H σ _ E (p.seq fun x v F1 H1 g1 r1 p1 => hb F1 H1 σ _ (E.grow g1) (p1.seq fun y u F2 H2 g2 r2 p2 => hr F2 H2 _ _ v u x y Q g2.fh (ρ1.grow g2 r1) r2 p2.ofV))
theorem cg_bin {op : Operator} {ρ1 : Rep V α} {ρ2 : Rep V β} {ρ : Rep V γ} {h : α → β → Option γ} {ra : R α} {rb : R β} (ho : OpD g.X (binaryOp op) ρ1 ρ2 ρ h) (ha : CG g ρ1 a Γ ra) (hb : CG g ρ2 b Γ rb) :
    CG g ρ (.BinOp a op b pos) Γ (ra >>= fun x => rb >>= fun y => .of (h x y)) := .mk fun F H σ Q E p => by
  obtain ⟨r, h1, h2⟩ := ho
  exact wE_of (pe_op h1 (pe_w _ a) (pe_w _ b)) (op2 h2 ha hb E p)
theorem cg_cmp {op : CmpOp} {ρ1 : Rep V α} {ρ2 : Rep V β} {ρ : Rep V γ} {h : α → β → Option γ} {ra : R α} {rb : R β} (ho : OpD g.X (compareOp op) ρ1 ρ2 ρ h) (ha : CG g ρ1 a Γ ra) (hb : CG g ρ2 b Γ rb) (hm : behindInMarks op b = false) :
    CG g ρ (.Compare a [op] [b] pos) Γ (ra >>= fun x => rb >>= fun y => .of (h x y)) := .mk fun F H σ Q E p => by
  obtain ⟨r, h1, h2⟩ := ho
  exact wE_of (pe_cmpR h1 (pe_w _ a) (pe_w _ b) hm) (op2 h2 ha hb E p)
def UnD (X : Cx) (f : Value → Sem Value) (ρ1 : Rep V α) (ρ : Rep V γ) (h : α → Option γ) : Prop :=
  ∃ r : V → Hp → VK → Prop, UnR X f r ∧ ∀ (F H H0 : Hp) (x : V) (dx : α) (Q : VK), Ex F H → ρ1.r H0 F H x dx → PostV ρ F H Q (h dx) → r x H Q
theorem cg_un {op : UnaryOp} {ρ1 : Rep V α} {ρ : Rep V γ} {h : α → Option γ} {ra : R α} (ho : UnD g.X (unaryOp op) ρ1 ρ h) (ha : CG g ρ1 a Γ ra) :
    CG g ρ (.UnaryOp op a pos) Γ (ra >>= fun x => .of (h x)) := .mk fun F H σ Q E p => by
  obtain ⟨r, h1, h2⟩ := ho
  exact wE_of (pe_un h1 (pe_w _ a)) (ha F H σ _ E (p.seq fun x v F1 H1 g1 r1 p1 => h2 F1 H1 _ v x Q g1.fh r1 p1.ofV))
end

/-! ### tests -/
/-- data as a truth value that is one -/
def D.asB : D → Option Bool
  | .bl b => some b
  | _ => none
@[simp] theorem asB_bl (b : Bool) : (D.bl b).asB = some b := rfl
/-- an expression that gives True or False, as a test -/
theorem ct_val {r : R D} (h : CE g e Γ r) (he : ∀ whole, isTrue e g.X.env whole = (do let v ← whole; standAt e.pos; holding [v] (truthy v)) := by intro _; rfl) : CT g e Γ (r >>= fun x => .of x.asB) := .mk fun F H σ Q E p =>
  wT_of (pt_val (pe_w _ e) he) (h F H σ _ E (p.seq fun x v F1 H1 g1 r1 p1 => by
    cases x with
    | bl b =>
      cases r1 with
      | bl b => exact ⟨b, rfl, p1.here g1.fh rfl⟩
    | _ => exact (show False from p1).elim))
theorem ct_cmp {op : CmpOp} {α β : Type} {ρ1 : Rep V α} {ρ2 : Rep V β} {h : α → β → Option D} {ra : R α} {rb : R β} (ho : OpD g.X (compareOp op) ρ1 ρ2 (rD g.X.K g.C) h) (ha : CG g ρ1 a Γ ra) (hb : CG g ρ2 b Γ rb) (hm : behindInMarks op b = false) :
    CT g (.Compare a [op] [b] pos) Γ (ra >>= fun x => rb >>= fun y => (.of (h x y)) >>= fun z => .of z.asB) := .mk fun F H σ Q E p => by
  obtain ⟨r, h1, h2⟩ := ho
  refine wT_of (pt_cmpR h1 (pe_w _ a) (pe_w _ b) hm) ?_
  refine ha F H σ _ E (p.seq fun x v F1 H1 g1 r1 p1 => hb F1 H1 σ _ (E.grow g1) (p1.seq fun y u F2 H2 g2 r2 p2 => h2 F2 H2 _ _ v u x y _ g2.fh (ρ1.grow g2 r1) r2 ?_))
  cases q : h x y with
  | none =>
    rw [q] at p2
    exact p2
  | some d =>
    rw [q] at p2
    intro w F3 H3 g3 r3
    have p3 : Post g rB F2 H2 σ Q (R.of d.asB) := p2
    cases d with
    | bl b =>
      cases r3 with
      | bl b => exact ⟨b, rfl, (p3.mono g3).here g3.fh rfl⟩
    | _ => exact (show False from p3).elim
theorem ct_not {r : R Bool} (h : CT g e Γ r) : CT g (.UnaryOp .Not e pos) Γ (r >>= fun x => .ok (!x)) := .mk fun F H σ Q E p =>
  wT_of (pt_not (pt_w _ e)) (h F H σ _ E (p.seq fun x v F1 H1 g1 r1 p1 => by
    have q : v = x := r1
    subst q
    exact p1.here g1.fh rfl))
theorem cw_and1 {r : R Bool} (h : CT g a Γ r) : CW g (.BoolOp .And [a] pos) Γ r := .mk fun F H σ Q E p => wW_of (pw_and1 (pt_w _ a)) (h F H σ Q E p)
theorem cw_or1 {r : R Bool} (h : CT g a Γ r) : CW g (.BoolOp .Or [a] pos) Γ r := .mk fun F H σ Q E p => wW_of (pw_or1 (pt_w _ a)) (h F H σ Q E p)
theorem cw_and {rest : List Expr} {r r2 : R Bool} (h : CT g a Γ r) (h2 : CW g (.BoolOp .And (b :: rest) pos) Γ r2) : CW g (.BoolOp .And (a :: b :: rest) pos) Γ (r >>= fun x => if x = true then r2 else .ok false) := .mk fun F H σ Q E p =>
  wW_of (pw_and (pt_w _ a) (pw_w _ _)) (h F H σ _ E (p.seq fun x v F1 H1 g1 r1 p1 => by
    have q : v = x := r1
    subst q
    cases v with
    | true => exact h2 F1 H1 σ Q (E.grow g1) p1
    | false => exact p1.here g1.fh rfl))
theorem cw_or {rest : List Expr} {r r2 : R Bool} (h : CT g a Γ r) (h2 : CW g (.BoolOp .Or (b :: rest) pos) Γ r2) : CW g (.BoolOp .Or (a :: b :: rest) pos) Γ (r >>= fun x => if x = true then .ok true else r2) := .mk fun F H σ Q E p =>
  wW_of (pw_or (pt_w _ a) (pw_w _ _)) (h F H σ _ E (p.seq fun x v F1 H1 g1 r1 p1 => by
    have q : v = x := r1
    subst q
    cases v with
    | true => exact p1.here g1.fh rfl
    | false => exact h2 F1 H1 σ Q (E.grow g1) p1))
theorem CW.t {r : R Bool} (h : CW g e Γ r) : CT g e Γ r := .mk fun F H σ Q E p => wT_of (pw_w _ e).pt (h F H σ Q E p)
/-- .. as values, all of which are True or False -/
theorem ce_one {op : _} {r : R D} (h : CE g a Γ r) : CE g (.BoolOp op [a] pos) Γ r := .mk fun F H σ Q E p => wE_of (pe_one (pe_w _ a)) (h F H σ Q E p)
end
end DL
end
section
set_option Elab.async false
set_option linter.all false
set_option maxRecDepth 100000
set_option maxHeartbeats 2000000
set_option autoImplicit false
namespace DL
open PySem PySem.Spec PyProof.Rows L2
variable [TN]

theorem R.assoc {α β γ : Type} (r : R α) (f : α → R β) (h : β → R γ) : ((r >>= f) >>= h) = (r >>= fun x => f x >>= h) := by
  cases r <;> rfl
theorem bind_id {α : Type} (r : R α) : (r >>= fun x => R.ok x) = r := by
  cases r <;> rfl
abbrev lim : Nat := 10000000
theorem lim_line {n : Nat} (h : n ≤ lim) : n ≤ sizeLine := Nat.le_trans h (by decide)
theorem lim_lt {n : Nat} (h : n < lim) : n < sizeLine := Nat.lt_of_lt_of_le h (by decide)

/-! ## operators on data -/
def D.add : D → D → Option D
  | .int i, .int j => some (.int (i + j))
  | .str x, .str y => if x.length + y.length ≤ lim then some (.str (x ++ y)) else none
  | .tup xs, .tup ys => if xs.length + ys.length ≤ lim then some (.tup (xs ++ ys)) else none
  | _, _ => none
def D.sub : D → D → Option D
  | .int i, .int j => some (.int (i - j))
  | _, _ => none
def D.mul : D → D → Option D
  | .int i, .int j => if (i.natAbs < 18446744073709551616 ∨ j.natAbs < 18446744073709551616) then some (.int (i * j)) else none
  | _, _ => none
def D.fdiv : D → D → Option D
  | .int i, .int j => if 0 < j ∧ j.toNat < 1073741824 then some (.int (i / j)) else none
  | _, _ => none
def D.mod : D → D → Option D
  | .int i, .int j => if 0 < j then some (.int (i % j)) else none
  | _, _ => none
def D.pow : D → D → Option D
  | .int i, .int j => if 0 ≤ j ∧ j.toNat ≤ 1000000 ∧ i.natAbs < 18446744073709551616 then some (.int (i ^ j.toNat)) else none
  | _, _ => none
def D.shl : D → D → Option D
  | .int i, .int j => if 0 ≤ j ∧ j.toNat ≤ 1000000 ∧ i.natAbs < 18446744073709551616 then some (.int (i * 2 ^ j.toNat)) else none
  | _, _ => none
def D.bor : D → D → Option D
  | .int i, .int j => some (.int (Builtin.bitOr i j))
  | _, _ => none
def D.band : D → D → Option D
  | .int i, .int j => some (.int (Builtin.bitAnd i j))
  | _, _ => none
def D.neg : D → Option D
  | .int i => some (.int (-i))
  | _ => none
def D.lt : D → D → Option D
  | .int i, .int j => some (.bl (decide (i < j)))
  | .str x, .str y => some (.bl (decide (x.cps.toList < y.cps.toList)))
  | _, _ => none
def D.le : D → D → Option D
  | .int i, .int j => some (.bl (decide (i ≤ j)))
  | .str x, .str y => some (.bl (!decide (y.cps.toList < x.cps.toList)))
  | _, _ => none
def D.gt : D → D → Option D
  | .int i, .int j => some (.bl (decide (j < i)))
  | .str x, .str y => some (.bl (decide (y.cps.toList < x.cps.toList)))
  | _, _ => none
def D.ge : D → D → Option D
  | .int i, .int j => some (.bl (decide (j ≤ i)))
  | .str x, .str y => some (.bl (!decide (x.cps.toList < y.cps.toList)))
  | _, _ => none

/-! ### data as the library's data -/
mutual
def D.py : D → Option PyData
  | .non => some .none
  | .bl b => some (.bool b)
  | .int i => some (.int i)
  | .str x => some (.str x)
  | .tup l => match D.pyA l with
    | some ds => some (.tuple ds)
    | none => none
  | .lst l => match D.pyA l with
    | some ds => some (.list ds)
    | none => none
  | .exc _ _ => none
def D.pyA : List D → Option (List PyData)
  | [] => some []
  | d :: l => match D.py d, D.pyA l with
    | some x, some xs => some (x :: xs)
    | _, _ => none
end
section
variable {K : PySem.W.Frag} {C : Ctab} {H : Hp}
mutual
theorem Rp.dp : ∀ {v : V} {d : D} {p : PyData}, Rp K C H v d → d.py = some p → Dp K H v p
  | _, _, _, .non, e => by
    cases e
    exact .non
  | _, _, _, .bl b, e => by
    cases e
    exact .bl b
  | _, _, _, .int b, e => by
    cases e
    exact .int b
  | _, _, _, .str b, e => by
    cases e
    exact .str b
  | _, .tup ds, p, .tup h r, e => by
    unfold D.py at e
    cases q : D.pyA ds with
    | none =>
      rw [q] at e
      cases e
    | some xs =>
      rw [q] at e
      cases e
      exact .tup h (RpA.dp r q)
  | _, .lst ds, p, .lst h r, e => by
    unfold D.py at e
    cases q : D.pyA ds with
    | none =>
      rw [q] at e
      cases e
    | some xs =>
      rw [q] at e
      cases e
      exact .lst (SqL.of h) (RpA.dp r q)
  | _, .exc c x, p, .exc _ _ _ _, e => by
    unfold D.py at e
    cases e
theorem RpA.dp : ∀ {vs : List V} {ds : List D} {ps : List PyData}, RpA K C H vs ds → D.pyA ds = some ps → DpAll K H vs ps
  | _, _, _, .nil, e => by
    cases e
    exact .nil
  | _, d :: ds, ps, .cons r t, e => by
    unfold D.pyA at e
    cases q1 : d.py with
    | none =>
      rw [q1] at e
      cases e
    | some x =>
      cases q2 : D.pyA ds with
      | none =>
        rw [q1, q2] at e
        cases e
      | some xs =>
        rw [q1, q2] at e
        cases e
        exact .cons (Rp.dp r q1) (RpA.dp t q2)
end
end
def D.okPy (d : D) : Option PyData := match d.py with
  | some p => if SeqAt.shaped p = true then some p else none
  | none => none
theorem okPy_of {d : D} {p : PyData} (h : d.okPy = some p) : d.py = some p ∧ SeqAt.shaped p = true := by
  unfold D.okPy at h
  cases q : d.py with
  | none =>
    rw [q] at h
    cases h
  | some x =>
    rw [q] at h
    dsimp only at h
    by_cases s : SeqAt.shaped x = true
    · rw [if_pos s] at h
      cases h
      exact ⟨rfl, s⟩
    · rw [if_neg s] at h
      cases h
/-- == where both are data -/
def D.eqb (x y : D) : Option Bool := match x.okPy, y.okPy with
  | some p, some q => some (PyData.eqv p q)
  | _, _ => none
def D.eq (x y : D) : Option D := (D.eqb x y).map D.bl
def D.ne (x y : D) : Option D := (D.eqb x y).map fun b => D.bl (!b)
theorem eqb_of {x y : D} {b : Bool} (h : D.eqb x y = some b) : ∃ p q, x.py = some p ∧ y.py = some q ∧ SeqAt.shaped p = true ∧ SeqAt.shaped q = true ∧ PyData.eqv p q = b := by
  unfold D.eqb at h
  cases q1 : x.okPy with
  | none =>
    rw [q1] at h
    cases h
  | some p =>
    cases q2 : y.okPy with
    | none =>
      rw [q1, q2] at h
      cases h
    | some q =>
      rw [q1, q2] at h
      cases h
      exact ⟨p, q, (okPy_of q1).1, (okPy_of q2).1, (okPy_of q1).2, (okPy_of q2).2, rfl⟩

section
variable {X : Cx} {C : Ctab}
theorem fin_here {α : Type} {ρ : Rep V α} {F H : Hp} {Q : VK} {a : α} {v : V} (h : PostV ρ F H Q (some a)) (e : Ex F H) (r : ρ.r H F H v a) : Q v H := h v F H (Gr.refl e) r
theorem int_of {K : PySem.W.Frag} {F : Hp} {v : V} {i : Int} (r : Rp K C F v (.int i)) : v = .int i := by
  cases r
  rfl
theorem str_of {K : PySem.W.Frag} {F : Hp} {v : V} {i : Str} (r : Rp K C F v (.str i)) : v = .str i := by
  cases r
  rfl
/-- an operation on ints alone -/
theorem opd_int {f : Value → Value → Sem Value} {c : Int → Int → Prop} {h : Int → Int → V} {k : D → D → Option D} {ρ1 ρ2 : Rep V D} (e1 : ∀ {H0 F H v d}, ρ1.r H0 F H v d → ∃ G, Rp X.K C G v d) (e2 : ∀ {H0 F H v d}, ρ2.r H0 F H v d → ∃ G, Rp X.K C G v d)
    (ho : OpR X f (rI c h)) (hk : ∀ x y z, k x y = some z → ∃ i j, x = .int i ∧ y = .int j ∧ c i j ∧ ∀ F, Rp X.K C F (h i j) z) : OpD X f ρ1 ρ2 (rD X.K C) k := by
  refine ⟨_, ho, fun F H H0 H1 x y dx dy Q e r1 r2 p => ?_⟩
  cases q : k dx dy with
  | none =>
    rw [q] at p
    exact p.elim
  | some z =>
    rw [q] at p
    obtain ⟨i, j, rfl, rfl, hc, hz⟩ := hk _ _ _ q
    obtain ⟨_, r1⟩ := e1 r1
    obtain ⟨_, r2⟩ := e2 r2
    exact ⟨i, j, int_of r1, int_of r2, hc, fin_here p e (hz _)⟩
theorem rD_rp {K : PySem.W.Frag} : ∀ {H0 F H : Hp} {v : V} {d : D}, (rD K C).r H0 F H v d → ∃ G, Rp K C G v d := fun h => ⟨_, h⟩
theorem rR_rp {K : PySem.W.Frag} : ∀ {H0 F H : Hp} {v : V} {d : D}, (rR K C).r H0 F H v d → ∃ G, Rp K C G v d := fun h => ⟨_, h⟩
theorem rI0_I {f : Value → Value → Sem Value} {h : Int → Int → V} (ho : OpR X f (rI0 h)) : OpR X f (rI (fun _ _ => True) h) := fun pins s σ H x y v u Q I rx ry ⟨i, j, e1, e2, _, q⟩ => ho pins s σ H x y v u Q I rx ry ⟨i, j, e1, e2, q⟩
theorem two64 : (2 : Int) ^ 64 = 18446744073709551616 := by decide
theorem od_sub : OpD X (binaryOp .Sub) (rD X.K C) (rD X.K C) (rD X.K C) D.sub := opd_int rD_rp rD_rp (rI0_I op_sub) (fun x y z e => by
  cases x <;> cases y <;> first | (cases e; exact ⟨_, _, rfl, rfl, trivial, fun F => .int _⟩) | cases e)
theorem od_bor : OpD X (binaryOp .BitOr) (rD X.K C) (rD X.K C) (rD X.K C) D.bor := opd_int rD_rp rD_rp (rI0_I op_or) (fun x y z e => by
  cases x <;> cases y <;> first | (cases e; exact ⟨_, _, rfl, rfl, trivial, fun F => .int _⟩) | cases e)
theorem od_band : OpD X (binaryOp .BitAnd) (rD X.K C) (rD X.K C) (rD X.K C) D.band := opd_int rD_rp rD_rp (rI0_I op_and) (fun x y z e => by
  cases x <;> cases y <;> first | (cases e; exact ⟨_, _, rfl, rfl, trivial, fun F => .int _⟩) | cases e)
theorem od_mul : OpD X (binaryOp .Mult) (rD X.K C) (rD X.K C) (rD X.K C) D.mul := opd_int rD_rp rD_rp op_mul (fun x y z e => by
  cases x <;> cases y <;> try (cases e; done)
  rename_i i j
  unfold D.mul at e
  dsimp only at e
  split at e
  · rename_i hc
    cases e
    refine ⟨i, j, rfl, rfl, ?_, fun F => .int _⟩
    rcases hc with h | h
    · exact .inl ⟨by rw [two64]; omega, by rw [two64]; omega⟩
    · exact .inr ⟨by rw [two64]; omega, by rw [two64]; omega⟩
  · cases e)
theorem od_fdiv : OpD X (binaryOp .FloorDiv) (rD X.K C) (rD X.K C) (rD X.K C) D.fdiv := opd_int rD_rp rD_rp op_fdiv (fun x y z e => by
  cases x <;> cases y <;> try (cases e; done)
  rename_i i j
  unfold D.fdiv at e
  dsimp only at e
  split at e
  · rename_i hc
    cases e
    exact ⟨i, j, rfl, rfl, ⟨hc.1, by omega⟩, fun F => .int _⟩
  · cases e)
theorem od_mod : OpD X (binaryOp .Mod) (rD X.K C) (rD X.K C) (rD X.K C) D.mod := opd_int rD_rp rD_rp op_mod (fun x y z e => by
  cases x <;> cases y <;> try (cases e; done)
  rename_i i j
  unfold D.mod at e
  dsimp only at e
  split at e
  · rename_i hc
    cases e
    exact ⟨i, j, rfl, rfl, hc, fun F => .int _⟩
  · cases e)
theorem od_pow : OpD X (binaryOp .Pow) (rD X.K C) (rD X.K C) (rD X.K C) D.pow := opd_int rD_rp rD_rp op_pow (fun x y z e => by
  cases x <;> cases y <;> try (cases e; done)
  rename_i i j
  unfold D.pow at e
  dsimp only at e
  split at e
  · rename_i hc
    cases e
    exact ⟨i, j, rfl, rfl, ⟨hc.1, by omega, hc.2.2⟩, fun F => .int _⟩
  · cases e)
theorem od_shl : OpD X (binaryOp .LShift) (rD X.K C) (rD X.K C) (rD X.K C) D.shl := opd_int rD_rp rD_rp op_shl (fun x y z e => by
  cases x <;> cases y <;> try (cases e; done)
  rename_i i j
  unfold D.shl at e
  dsimp only at e
  split at e
  · rename_i hc
    cases e
    exact ⟨i, j, rfl, rfl, ⟨hc.1, by omega, hc.2.2⟩, fun F => .int _⟩
  · cases e)
theorem od_add : OpD X (binaryOp .Add) (rD X.K C) (rD X.K C) (rD X.K C) D.add := by
  refine ⟨_, op_add.or (op_add_str.or op_catA), fun F H H0 H1 x y dx dy Q e r1 r2 p => ?_⟩
  cases dx <;> cases dy <;> try (exact (show False from p).elim)
  · exact .inl ⟨_, _, int_of r1, int_of r2, fin_here p e (.int _)⟩
  · rename_i a b
    by_cases hl : a.length + b.length ≤ lim
    · have p' : PostV (rD X.K C) F H Q (some (D.str (a ++ b))) := by
        unfold D.add at p
        dsimp only at p
        rw [if_pos hl] at p
        exact p
      exact .inr (.inl ⟨_, _, str_of r1, str_of r2, lim_line hl, fin_here p' e (.str _)⟩)
    · unfold D.add at p
      dsimp only at p
      rw [if_neg hl] at p
      exact (show False from p).elim
  · rename_i a b
    by_cases hl : a.length + b.length ≤ lim
    · have p' : PostV (rD X.K C) F H Q (some (D.tup (a ++ b))) := by
        unfold D.add at p
        dsimp only at p
        rw [if_pos hl] at p
        exact p
      cases r1 with
      | tup h1 a1 =>
        cases r2 with
        | tup h2 a2 =>
          rename_i p1 vs p2 ws
          refine .inr (.inr ⟨p1, p2, vs, ws, rfl, rfl, ex_t e h1, ex_t e h2, ?_, fun z => ?_, fun _ z => ?_, fun _ _ p hp => ?_⟩)
          · rw [a1.length, a2.length]
            exact lim_line hl
          · subst z
            cases a1
            exact fin_here p' e (.tup h2 (by simpa using a2))
          · subst z
            cases a2
            exact fin_here p' e (.tup h1 (by simpa using a1))
          · have gr : Gr F H (upd F p (.tup (vs ++ ws))) (upd H p (.tup (vs ++ ws))) := Gr.alloc e hp
            exact p' _ _ _ gr (.tup (SqT.of upd_same) ((a1.append a2).mono gr.f))
    · unfold D.add at p
      dsimp only at p
      rw [if_neg hl] at p
      exact (show False from p).elim
theorem ud_neg : UnD X (unaryOp .USub) (rD X.K C) (rD X.K C) D.neg := by
  refine ⟨_, un_neg, fun F H H0 x dx Q e r p => ?_⟩
  cases dx <;> try (exact (show False from p).elim)
  exact ⟨_, int_of r, fin_here p e (.int _)⟩

/-! ### lists -/
def lcat (xs ys : List D) : Option (List D) := if xs.length + ys.length ≤ lim then some (xs ++ ys) else none
theorem od_lcat : OpD X (binaryOp .Add) (rM X.K C) (rM X.K C) (rN X.K C) lcat := by
  refine ⟨_, op_cat, fun F H H0 H1 x y dx dy Q e r1 r2 p => ?_⟩
  unfold lcat at p
  split at p
  · rename_i hl
    obtain ⟨p1, vs, rfl, h1, a1⟩ := r1
    obtain ⟨p2, ws, rfl, h2, a2⟩ := r2
    refine ⟨p1, p2, vs, ws, rfl, rfl, h1, h2, by rw [a1.length, a2.length]; exact lim_line hl, fun q hq => ?_⟩
    exact p _ _ _ (Gr.own e hq) ⟨q, _, rfl, hq, e.back hq, upd_same, a1.append a2⟩
  · exact p.elim
def lrep (xs : List D) : D → Option (List D)
  | .int k => if k.natAbs ≤ 100000 ∧ xs.length * k.toNat ≤ lim then some (List.replicate k.toNat xs).flatten else none
  | _ => none
theorem RpA.rep {K : PySem.W.Frag} {F : Hp} {vs : List V} {xs : List D} (h : RpA K C F vs xs) : ∀ n : Nat, RpA K C F (List.replicate n vs).flatten (List.replicate n xs).flatten
  | 0 => .nil
  | n + 1 => by
    rw [List.replicate_succ, List.replicate_succ, List.flatten_cons, List.flatten_cons]
    exact h.append (RpA.rep h n)
theorem od_lrep : OpD X (binaryOp .Mult) (rM X.K C) (rD X.K C) (rN X.K C) lrep := by
  refine ⟨_, op_rep, fun F H H0 H1 x y dx dy Q e r1 r2 p => ?_⟩
  unfold lrep at p
  cases dy <;> try (exact (show False from p).elim)
  rename_i k
  dsimp only at p
  split at p
  · rename_i hl
    obtain ⟨p1, vs, rfl, h1, a1⟩ := r1
    refine ⟨p1, k, vs, rfl, int_of r2, h1, by omega, by omega, by rw [a1.length]; exact lim_line hl.2, fun q hq => ?_⟩
    exact p _ _ _ (Gr.own e hq) ⟨q, _, rfl, hq, e.back hq, upd_same, a1.rep _⟩
  · exact p.elim

/-! ### comparisons -/
theorem od_lt : OpD X (compareOp .Lt) (rD X.K C) (rD X.K C) (rD X.K C) D.lt := by
  refine ⟨_, op_lt.or op_lt_str, fun F H H0 H1 x y dx dy Q e r1 r2 p => ?_⟩
  cases dx <;> cases dy <;> try (exact (show False from p).elim)
  · exact .inl ⟨_, _, int_of r1, int_of r2, fin_here p e (.bl _)⟩
  · exact .inr ⟨_, _, str_of r1, str_of r2, fin_here p e (.bl _)⟩
theorem od_le : OpD X (compareOp .LtE) (rD X.K C) (rD X.K C) (rD X.K C) D.le := by
  refine ⟨_, op_le.or op_le_str, fun F H H0 H1 x y dx dy Q e r1 r2 p => ?_⟩
  cases dx <;> cases dy <;> try (exact (show False from p).elim)
  · exact .inl ⟨_, _, int_of r1, int_of r2, fin_here p e (.bl _)⟩
  · exact .inr ⟨_, _, str_of r1, str_of r2, fin_here p e (.bl _)⟩
theorem od_gt : OpD X (compareOp .Gt) (rD X.K C) (rD X.K C) (rD X.K C) D.gt := by
  refine ⟨_, op_gt.or op_gt_str, fun F H H0 H1 x y dx dy Q e r1 r2 p => ?_⟩
  cases dx <;> cases dy <;> try (exact (show False from p).elim)
  · exact .inl ⟨_, _, int_of r1, int_of r2, fin_here p e (.bl _)⟩
  · exact .inr ⟨_, _, str_of r1, str_of r2, fin_here p e (.bl _)⟩
theorem od_ge : OpD X (compareOp .GtE) (rD X.K C) (rD X.K C) (rD X.K C) D.ge := by
  refine ⟨_, op_ge.or op_ge_str, fun F H H0 H1 x y dx dy Q e r1 r2 p => ?_⟩
  cases dx <;> cases dy <;> try (exact (show False from p).elim)
  · exact .inl ⟨_, _, int_of r1, int_of r2, fin_here p e (.bl _)⟩
  · exact .inr ⟨_, _, str_of r1, str_of r2, fin_here p e (.bl _)⟩
theorem od_eq (hu : X.A.units + 64 < cLine) : OpD X (compareOp .Eq) (rR X.K C) (rR X.K C) (rD X.K C) D.eq := by
  refine ⟨_, op_eqD hu, fun F H H0 H1 x y dx dy Q e r1 r2 p => ?_⟩
  unfold D.eq at p
  cases q : D.eqb dx dy with
  | none =>
    rw [q] at p
    exact (show False from p).elim
  | some b =>
    rw [q] at p
    obtain ⟨a, c, h1, h2, s1, s2, h3⟩ := eqb_of q
    refine ⟨a, c, Rp.dp r1 h1, Rp.dp r2 h2, s1, s2, ?_⟩
    rw [h3]
    exact fin_here p e (.bl _)
theorem od_ne (hu : X.A.units + 64 < cLine) : OpD X (compareOp .NotEq) (rR X.K C) (rR X.K C) (rD X.K C) D.ne := by
  refine ⟨_, op_neD hu, fun F H H0 H1 x y dx dy Q e r1 r2 p => ?_⟩
  unfold D.ne at p
  cases q : D.eqb dx dy with
  | none =>
    rw [q] at p
    exact (show False from p).elim
  | some b =>
    rw [q] at p
    obtain ⟨a, c, h1, h2, s1, s2, h3⟩ := eqb_of q
    refine ⟨a, c, Rp.dp r1 h1, Rp.dp r2 h2, s1, s2, ?_⟩
    rw [h3]
    exact fin_here p e (.bl _)
def D.isNon : D → Bool
  | .non => true
  | _ => false
theorem rp_non {K : PySem.W.Frag} {F : Hp} {v : V} {d : D} (r : Rp K C F v d) : decide (v = .non) = d.isNon := by
  cases r <;> rfl
theorem od_is : OpD X (compareOp .Is) (rR X.K C) (rD X.K C) (rD X.K C) (fun x y => match y with | .non => some (.bl x.isNon) | _ => none) := by
  refine ⟨_, op_isN, fun F H H0 H1 x y dx dy Q e r1 r2 p => ?_⟩
  cases dy <;> try (exact (show False from p).elim)
  cases r2
  refine ⟨rfl, ?_⟩
  rw [rp_non r1]
  exact fin_here p e (.bl _)
theorem od_isnot : OpD X (compareOp .IsNot) (rR X.K C) (rD X.K C) (rD X.K C) (fun x y => match y with | .non => some (.bl (!x.isNon)) | _ => none) := by
  refine ⟨_, op_notN, fun F H H0 H1 x y dx dy Q e r1 r2 p => ?_⟩
  cases dy <;> try (exact (show False from p).elim)
  cases r2
  refine ⟨rfl, ?_⟩
  rw [rp_non r1]
  exact fin_here p e (.bl _)

/-! ### places -/
theorem atI_RpA {K : PySem.W.Frag} {F : Hp} {vs : List V} {ds : List D} {i : Int} {d : D} (h : RpA K C F vs ds) (e : atI ds i = some d) : ∃ v, atI vs i = some v ∧ Rp K C F v d := by
  unfold atI at e ⊢
  rw [h.length]
  cases q : ixN ds.length i with
  | none =>
    rw [q] at e
    cases e
  | some j =>
    rw [q] at e
    exact h.get e
def D.idx : D → D → Option D
  | .tup l, .int i => atI l i
  | .lst l, .int i => atI l i
  | .str x, .int i => if x.length ≤ lim then (atI x.cps.toList i).map fun c => D.str ⟨#[c]⟩ else none
  | _, _ => none
/-- a subscript by values -/
def IxD (X : Cx) {α : Type} (ρ1 : Rep V α) (ρ2 : Rep V D) (ρ : Rep V D) (h : α → D → Option D) : Prop :=
  ∃ r : R2, IxR X r ∧ ∀ (F H H0 H1 : Hp) (x y : V) (dx : α) (dy : D) (Q : VK), Ex F H → ρ1.r H0 F H x dx → ρ2.r H1 F H y dy → PostV ρ F H Q (h dx dy) → r x y H Q
theorem xd_idx : IxD X (rD X.K C) (rD X.K C) (rD X.K C) D.idx := by
  refine ⟨_, ix_seq, fun F H H0 H1 x y dx dy Q e r1 r2 p => ?_⟩
  cases dx <;> cases dy <;> try (exact (show False from p).elim)
  · rename_i z i
    unfold D.idx at p
    dsimp only at p
    split at p
    · rename_i hl
      cases q : atI z.cps.toList i with
      | none =>
        rw [q] at p
        exact (show False from p).elim
      | some c =>
        rw [q] at p
        exact .inr (.inr ⟨z, i, c, str_of r1, int_of r2, lim_line hl, q, fin_here p e (.str _)⟩)
    · exact (show False from p).elim
  · rename_i l i
    have p' : PostV (rD X.K C) F H Q (atI l i) := p
    cases q : atI l i with
    | none =>
      rw [q] at p'
      exact (show False from p').elim
    | some d =>
      rw [q] at p'
      cases r1 with
      | tup h1 a1 =>
        obtain ⟨v, h2, h3⟩ := atI_RpA a1 q
        exact .inr (.inl ⟨_, _, i, v, rfl, int_of r2, ex_t e h1, h2, fin_here p' e h3⟩)
  · rename_i l i
    have p' : PostV (rD X.K C) F H Q (atI l i) := p
    cases q : atI l i with
    | none =>
      rw [q] at p'
      exact (show False from p').elim
    | some d =>
      rw [q] at p'
      cases r1 with
      | lst h1 a1 =>
        obtain ⟨v, h2, h3⟩ := atI_RpA a1 q
        exact .inl ⟨_, _, i, v, rfl, int_of r2, SqL.of (e.at h1), h2, fin_here p' e h3⟩
def lidx (l : List D) : D → Option D
  | .int i => atI l i
  | _ => none
theorem xd_lidx : IxD X (rL X.K C) (rD X.K C) (rD X.K C) lidx := by
  refine ⟨_, ix_list, fun F H H0 H1 x y dx dy Q e r1 r2 p => ?_⟩
  cases dy <;> try (exact (show False from p).elim)
  rename_i i
  have p' : PostV (rD X.K C) F H Q (atI dx i) := p
  obtain ⟨a, vs, rfl, h1, a1⟩ := r1
  cases q : atI dx i with
  | none =>
    rw [q] at p'
    exact (show False from p').elim
  | some d =>
    rw [q] at p'
    obtain ⟨v, h2, h3⟩ := atI_RpA a1 q
    exact ⟨a, vs, i, v, rfl, int_of r2, h1, h2, fin_here p' e h3⟩
end
section
variable {g : G} {Γ : List Sl} {e a b c : Expr} {pos : Pos}
theorem cg_ix {α : Type} {ρ1 : Rep V α} {ρ2 ρ : Rep V D} {h : α → D → Option D} {ra : R α} {rb : R D} (ho : IxD g.X ρ1 ρ2 ρ h) (ha : CG g ρ1 a Γ ra) (hb : CG g ρ2 b Γ rb) (hs : PlainIx b := by exact fun _ _ => rfl) :
    CG g ρ (.Subscript a b pos) Γ (ra >>= fun x => rb >>= fun y => .of (h x y)) := .mk fun F H σ Q E p => by
  obtain ⟨r, h1, h2⟩ := ho
  exact wE_of (pe_ix h1 (pe_w _ a) (pe_w _ b) hs) (op2 h2 ha hb E p)

/-! ### slices -/
def cutD {α : Type} (xs : List α) (lo hi : Option Int) : List α := (xs.drop (HT.sIx xs.length 0 lo)).take (HT.sIx xs.length xs.length hi - HT.sIx xs.length 0 lo)
theorem RpA.cut {K : PySem.W.Frag} {C : Ctab} {F : Hp} {vs : List V} {ds : List D} (h : RpA K C F vs ds) (lo hi : Option Int) : RpA K C F (cutV vs lo hi) (cutD ds lo hi) := by
  unfold cutV cutD
  rw [h.length]
  exact (h.drop _).take _
/-- a slice's end -/
def wO (X : Cx) (e : Option Expr) : TO := fun σ H Q => ∀ pins s, Inv X pins σ H s → wpAny (model X.prog X.w) X.A (evalPart e X.env) (fun u s' => ∃ o H', Inv X pins σ H' s' ∧ IsPart u o ∧ Q o H') X.xe s
theorem po_w (X : Cx) (e : Option Expr) : PO X e (wO X e) := ⟨fun pins s _ _ _ I h => h pins s I⟩
theorem wO_of {X : Cx} {e : Option Expr} {t : TO} (p : PO X e t) {σ : L2.St} {H : Hp} {Q : Option Int → Hp → Prop} (h : t σ H Q) : wO X e σ H Q := fun pins s I => p.run pins s σ H Q I h
def rO : Rep (Option Int) (Option Int) := ⟨fun _ _ _ b a => b = a, fun _ h => h, fun _ h => h⟩
structure CO (g : G) (e : Option Expr) (Γ : List Sl) (r : R (Option Int))  : Prop where
  h : ∀ F H σ Q, g.Env F H σ Γ → Post g rO F H σ Q r → wO g.X e σ H Q
instance (g : G) (e : Option Expr) (Γ : List Sl) (r : R (Option Int))  : CoeFun (CO g e Γ r) (fun _ => ∀ F H σ Q, g.Env F H σ Γ → Post g rO F H σ Q r → wO g.X e σ H Q) := ⟨CO.h⟩
theorem co_none : CO g none Γ (.ok none) := .mk fun F H σ Q E p => wO_of po_none (p.here E.ef rfl)
def D.asI : D → Option Int
  | .int i => some i
  | _ => none
theorem co_some {r : R D} (h : CE g e Γ r) : CO g (some e) Γ (r >>= fun x => .of (x.asI.map some)) := .mk fun F H σ Q E p => wO_of (po_some (pe_w _ e)) (h F H σ _ E (p.seq fun x v F1 H1 g1 r1 p1 => by
  cases x <;> try (exact (show False from p1).elim)
  exact ⟨_, int_of r1, p1.here g1.fh rfl⟩))
def SlD (X : Cx) {α γ : Type} (ρ1 : Rep V α) (ρ : Rep V γ) (h : α → Option Int → Option Int → Option γ) : Prop :=
  ∃ r : V → Option Int → Option Int → Hp → VK → Prop, SlR X r ∧ ∀ (F H H0 : Hp) (x : V) (dx : α) (lo hi : Option Int) (Q : VK), Ex F H → ρ1.r H0 F H x dx → PostV ρ F H Q (h dx lo hi) → r x lo hi H Q
theorem cg_sl {α γ : Type} {ρ1 : Rep V α} {ρ : Rep V γ} {h : α → Option Int → Option Int → Option γ} {ra : R α} {lo hi : Option Expr} {p2 : Pos} {rl rh : R (Option Int)} (ho : SlD g.X ρ1 ρ h) (ha : CG g ρ1 a Γ ra) (hl : CO g lo Γ rl) (hh : CO g hi Γ rh) :
    CG g ρ (.Subscript a (.Slice lo hi none p2) pos) Γ (ra >>= fun x => rl >>= fun l => rh >>= fun u => .of (h x l u)) := .mk fun F H σ Q E p => by
  obtain ⟨r, h1, h2⟩ := ho
  refine wE_of (pe_slice h1 (pe_w _ a) (po_w _ lo) (po_w _ hi)) ?_
  exact ha F H σ _ E (p.seq fun x v F1 H1 g1 r1 p1 => hl F1 H1 σ _ (E.grow g1) (p1.seq fun l l' F2 H2 g2 r2 p2 => hh F2 H2 σ _ ((E.grow g1).grow g2) (p2.seq fun u u' F3 H3 g3 r3 p3 => by
    obtain rfl : l' = l := r2
    obtain rfl : u' = u := r3
    exact h2 F3 H3 _ v x _ _ Q g3.fh (ρ1.grow (g2.trans g3) r1) p3.ofV)))
def D.slc : D → Option Int → Option Int → Option D
  | .tup l, lo, hi => some (.tup (cutD l lo hi))
  | .str x, lo, hi => if x.length ≤ lim then some (.str (cutS x lo hi)) else none
  | _, _, _ => none
section
variable {X : Cx} {C : Ctab}
theorem cutD_whole (l : List D) (lo hi : Option Int) (h : HT.sIx l.length 0 lo = 0 ∧ HT.sIx l.length l.length hi = l.length) : cutD l lo hi = l := by
  unfold cutD
  rw [h.1, h.2, List.drop_zero, Nat.sub_zero, List.take_length]
theorem sd_slc : SlD X (rD X.K C) (rD X.K C) D.slc := by
  refine ⟨_, sl_tupA.or sl_str, fun F H H0 x dx lo hi Q e r1 p => ?_⟩
  cases dx <;> try (exact (show False from p).elim)
  · rename_i z
    unfold D.slc at p
    dsimp only at p
    split at p
    · rename_i hl
      exact .inr ⟨z, str_of r1, lim_line hl, fin_here p e (.str _)⟩
    · exact (show False from p).elim
  · rename_i l
    cases r1 with
    | tup h1 a1 =>
      rename_i a vs
      refine .inl ⟨a, vs, rfl, ex_t e h1, fun w => ?_, fun w q hq => ?_⟩
      · have p' : PostV (rD X.K C) F H Q (some (.tup (cutD l lo hi))) := p
        rw [cutD_whole l lo hi (by rw [← a1.length]; exact w)] at p'
        exact fin_here p' e (.tup h1 a1)
      · have gr : Gr F H (upd F q (.tup (cutV vs lo hi))) (upd H q (.tup (cutV vs lo hi))) := Gr.alloc e hq
        exact p _ _ _ gr (.tup (SqT.of upd_same) ((a1.cut lo hi).mono gr.f))
/-- a list's slice: a new list -/
theorem sd_lslc : SlD X (rL X.K C) (rN X.K C) (fun l lo hi => some (cutD l lo hi)) := by
  refine ⟨_, sl_list, fun F H H0 x dx lo hi Q e r1 p => ?_⟩
  obtain ⟨a, vs, rfl, h1, a1⟩ := r1
  exact ⟨a, vs, rfl, h1, fun q hq => p _ _ _ (Gr.own e hq) ⟨q, _, rfl, hq, e.back hq, upd_same, a1.cut lo hi⟩⟩
end

/-! ### arguments, displays -/
theorem ca_nil : CA g [] Γ (.ok []) := .mk fun F H σ Q E p => wA_of pa_nil (p.here E.ef .nil)
theorem ca_cons {es : List Expr} {ra : R D} {rs : R (List D)} (ha : CE g a Γ ra) (hs : CA g es Γ rs) (hst : starEach (a :: es) g.X.env = (false, eval a g.X.env) :: starEach es g.X.env := by rfl) :
    CA g (a :: es) Γ (ra >>= fun x => rs >>= fun xs => .ok (x :: xs)) := .mk fun F H σ Q E p =>
  wA_of (pa_cons (pe_w _ a) (pa_w _ es) hst) (ha F H σ _ E (p.seq fun x v F1 H1 g1 r1 p1 => hs F1 H1 σ _ (E.grow g1) (p1.seq fun xs vs F2 H2 g2 r2 p2 => p2.here g2.fh (.cons (Rp.mono g2.f r1) r2))))
theorem ce_tupA {es : List Expr} {x1 : Nat} {r : R (List D)} (h : CA g es Γ r) (hl : decide (es.length ≤ 100000) = true := by rfl) : CE g (.Tuple es x1 pos) Γ (r >>= fun xs => if xs.length ≤ lim then .ok (.tup xs) else .un) := .mk fun F H σ Q E p =>
  wE_of (pe_tup (pa_w _ es)) (h F H σ _ E (p.seq fun xs vs F1 H1 g1 r1 p1 => by
    split at p1
    · rename_i hl
      refine ⟨by rw [RpA.length r1]; exact lim_line hl, fun q hq => ?_⟩
      have gr : Gr F1 H1 (upd F1 q (.tup vs)) (upd H1 q (.tup vs)) := Gr.alloc g1.fh hq
      exact p1 _ _ _ gr (.tup (SqT.of upd_same) (RpA.mono gr.f r1))
    · exact (show False from p1).elim))
theorem cn_lstA {es : List Expr} {r : R (List D)} (h : CA g es Γ r) : CN g (.List es pos) Γ (r >>= fun xs => if xs.length ≤ lim then .ok xs else .un) := .mk fun F H σ Q E p =>
  wE_of (pe_lst (pa_w _ es)) (h F H σ _ E (p.seq fun xs vs F1 H1 g1 r1 p1 => by
    split at p1
    · rename_i hl
      refine ⟨by rw [RpA.length r1]; exact lim_line hl, fun q hq => ?_⟩
      exact p1 _ _ _ (Gr.own g1.fh hq) ⟨q, vs, rfl, hq, g1.fh.back hq, upd_same, r1⟩
    · exact (show False from p1).elim))
theorem ce_tup0 {x1 : Nat} : CE g (.Tuple [] x1 pos) Γ (.ok (.tup [])) := ce_tupA ca_nil
theorem ce_tup1 {x1 : Nat} {ra : R D} (ha : CE g a Γ ra) (h1 : starEach [a] g.X.env = [(false, eval a g.X.env)] := by rfl) : CE g (.Tuple [a] x1 pos) Γ (ra >>= fun x => .ok (.tup [x])) := by
  have h := ce_tupA (pos := pos) (x1 := x1) (ca_cons ha ca_nil h1)
  simp only [R.assoc, bind_ok] at h
  exact h
theorem ce_tup2 {x1 : Nat} {ra rb : R D} (ha : CE g a Γ ra) (hb : CE g b Γ rb) (h1 : starEach [a, b] g.X.env = (false, eval a g.X.env) :: starEach [b] g.X.env := by rfl) (h2 : starEach [b] g.X.env = [(false, eval b g.X.env)] := by rfl) :
    CE g (.Tuple [a, b] x1 pos) Γ (ra >>= fun x => rb >>= fun y => .ok (.tup [x, y])) := by
  have h := ce_tupA (pos := pos) (x1 := x1) (ca_cons ha (ca_cons hb ca_nil h2) h1)
  simp only [R.assoc, bind_ok] at h
  exact h
theorem ce_tup3 {x1 : Nat} {ra rb rc : R D} (ha : CE g a Γ ra) (hb : CE g b Γ rb) (hc : CE g c Γ rc) (h1 : starEach [a, b, c] g.X.env = (false, eval a g.X.env) :: starEach [b, c] g.X.env := by rfl) (h2 : starEach [b, c] g.X.env = (false, eval b g.X.env) :: starEach [c] g.X.env := by rfl)
    (h3 : starEach [c] g.X.env = [(false, eval c g.X.env)] := by rfl) :
    CE g (.Tuple [a, b, c] x1 pos) Γ (ra >>= fun x => rb >>= fun y => rc >>= fun z => .ok (.tup [x, y, z])) := by
  have h := ce_tupA (pos := pos) (x1 := x1) (ca_cons ha (ca_cons hb (ca_cons hc ca_nil h3) h2) h1)
  simp only [R.assoc, bind_ok] at h
  exact h
theorem cn_lst0 : CN g (.List [] pos) Γ (.ok []) := cn_lstA ca_nil
theorem cn_lst1 {ra : R D} (ha : CE g a Γ ra) (h1 : starEach [a] g.X.env = [(false, eval a g.X.env)] := by rfl) : CN g (.List [a] pos) Γ (ra >>= fun x => .ok [x]) := by
  have h := cn_lstA (pos := pos) (ca_cons ha ca_nil h1)
  simp only [R.assoc, bind_ok] at h
  exact h
theorem cn_lst2 {ra rb : R D} (ha : CE g a Γ ra) (hb : CE g b Γ rb) (h1 : starEach [a, b] g.X.env = (false, eval a g.X.env) :: starEach [b] g.X.env := by rfl) (h2 : starEach [b] g.X.env = [(false, eval b g.X.env)] := by rfl) :
    CN g (.List [a, b] pos) Γ (ra >>= fun x => rb >>= fun y => .ok [x, y]) := by
  have h := cn_lstA (pos := pos) (ca_cons ha (ca_cons hb ca_nil h2) h1)
  simp only [R.assoc, bind_ok] at h
  exact h
end
end DL
end
section
set_option Elab.async false
set_option linter.all false
set_option maxRecDepth 100000
set_option maxHeartbeats 2000000
set_option autoImplicit false
namespace DL
open PySem PySem.Spec PyProof.Rows L2
variable [TN]

/-! ## what a def promises: its mirror's answer -/
def PostD (K : PySem.W.Frag) (C : Ctab) (F H : Hp) (Q : VK) (E : XK) : R D → Prop
  | .ok d => ∀ v F' H', Gr F H F' H' → Rp K C F' v d → Q v H'
  | .ex c x => ∀ cl dx F' H', Gr F H F' H' → ExR K C F' cl dx c x → E cl (some dx) H'
  | _ => False
def spD (K : PySem.W.Frag) (C : Ctab) (m : List D → R D) : Sp := fun vs H Q E => ∃ F ds, Ex F H ∧ LamX.Tabs TN.T H ∧ RpA K C F vs ds ∧ PostD K C F H Q E (m ds)
/-! ## a def's promise where no repr is under way -/
structure FnG (P : Program) (w : World) (K : PySem.W.Frag) (mg : Str → Option Value) (base : Heap) (CX : CXT) (bb : Bool) (k : Nat) (f : Addr) (fd : FuncData) (ps : List Str) (sp : Sp) : Prop where
  len : ∀ vs H Q E, sp vs H Q E → vs.length = ps.length
  go : ∀ (A : Around) (outer : List PySem.Env) (s : Shared) (H : Hp) (args : Args) (us : List Value) (vs : List V) (Q : VK) (E : XK), (bb = true → A.guards = some []) → Room k A → Env0 P w K mg base A outer s H →
    BindsTo s fd args (ps.zip us) → Vals vs us → sp vs H Q E → codeAny (model P w) A (.call (.ref f) args) (L2.CR CX outer P w H s Q E) s
theorem FnG.of {P : Program} {w : World} {K : PySem.W.Frag} {mg : Str → Option Value} {base : Heap} {CX : CXT} {k : Nat} {f : Addr} {fd : FuncData} {ps : List Str} {sp : Sp} (h : FnOk P w K mg base CX k f fd ps sp) : FnG P w K mg base CX false k f fd ps sp :=
  ⟨h.len, fun A outer s H args us vs Q E _ => h.run A outer s H args us vs Q E⟩
theorem FnG.ok {P : Program} {w : World} {K : PySem.W.Frag} {mg : Str → Option Value} {base : Heap} {CX : CXT} {k : Nat} {f : Addr} {fd : FuncData} {ps : List Str} {sp : Sp} (h : FnG P w K mg base CX false k f fd ps sp) : FnOk P w K mg base CX k f fd ps sp :=
  ⟨h.len, fun A outer s H args us vs Q E => h.go A outer s H args us vs Q E fun z => nomatch z⟩
theorem FnG.mono {P : Program} {w : World} {K : PySem.W.Frag} {mg : Str → Option Value} {base : Heap} {CX : CXT} {bb : Bool} {j k : Nat} {f : Addr} {fd : FuncData} {ps : List Str} {sp : Sp} (h : FnG P w K mg base CX bb j f fd ps sp) (l : j ≤ k) : FnG P w K mg base CX bb k f fd ps sp :=
  ⟨h.len, fun A outer s H args us vs Q E hg hr => h.go A outer s H args us vs Q E hg (hr.mono l)⟩
section
variable {X : Cx} {CX : CXT} {bb : Bool} {k : Nat} {f : Addr} {fd : FuncData} {ps : List Str} {sp : Sp} {dvs : List V} {ds : List Value} {E : L2.St → XK} {x : Str} {p pos : Pos} {e : Expr} {es : List Expr} {t : TA}
theorem run_fnG {pins : List (Addr × Obj)} {σ : L2.St} {H : Hp} {s : Shared} {Q : VK} {us : List Value} {vs : List V} (Fn : FnG X.prog X.w X.K X.mg X.base CX bb k f fd ps sp) (gd : bb = true → X.A.guards = some []) (hr : Room k X.A) (hb : Binds X.K fd ps ds) (hd : Vals dvs ds)
    (hx : PassesAt CX X σ (E σ)) (I : Inv X pins σ H s) (r : Vals vs us) (h : sp (vs ++ dvs) H Q (E σ)) : wpAny (model X.prog X.w) X.A (call (.ref f) us) (EP X pins σ Q) X.xe s := by
  have both : Vals (vs ++ dvs) (us ++ ds) := r.append hd
  have lens : (us ++ ds).length = ps.length := both.length.symm.trans (Fn.len _ _ _ _ h)
  have whole := Fn.go X.A X.stack s H ⟨us, []⟩ (us ++ ds) (vs ++ dvs) Q (E σ) gd hr I.env0 (hb s us I.kIn lens) both h
  refine wpAny_call (codeAny_mono whole fun r s' c => ?_)
  match r, c with
  | .error e, c => exact hx pins H s e s' I c
  | .ok (.ret u), c => exact I.after c
  | .ok .next, c => exact False.elim c
  | .ok .brk, c => exact False.elim c
  | .ok .cont, c => exact False.elim c
theorem pe_callG (Fn : FnG X.prog X.w X.K X.mg X.base CX bb k f fd ps sp) (gd : bb = true → X.A.guards = some []) (hr : Room k X.A) (hg : Gl X x) (hm : X.mg x = some (.ref f)) (hk : PySem.W.keepIn X.K (.ref f) = true) (hb : Binds X.K fd ps ds) (hd : Vals dvs ds) (hx : ∀ σ, PassesAt CX X σ (E σ)) (ha : PA X (e :: es) t)
    (hdb : (x == ("__debug__" : Str)) = false := by decide) (he : starEach (e :: es) X.env = (false, eval e X.env) :: starEach es X.env := by rfl) (hpl : (backTo pos (starEach es X.env)).any (·.1) = false := by rfl) :
    PE X (.Call (.Name x p) (e :: es) [] pos) (tCallSD sp dvs E t) := by
  constructor
  intro pins s σ H Q I h
  refine wpAny_Call_Name_kw (ld_glob I hg hm ?_ hdb)
  have args := ha.run pos pins s σ H _ I h
  refine PySem.W.callWith_K (h₀ := X.base) I.ok.mod.kin hk (thn args fun us s1 q => ?_) he hpl
  obtain ⟨vs, H1, J, r, q⟩ := q
  exact ⟨J.kIn, run_fnG Fn gd hr hb hd (hx σ) J r q⟩
end
section
variable {CX : CXT} {P : Program} {w : World} {K : PySem.W.Frag} {mg : Str → Option Value} {base : Heap} {bb : Bool} {k : Nat} {f : Addr} {name qual : Str} {params : Arguments} {body : List Stmt} {scope : Scope} {dV kV doc pm cdv ct oc : Value} {an od : Option Addr} {osl : Array (Option Value)} {N ps : List Str} {sp : Sp}
/-- a def by its body -/
theorem fnG_of (lk : K.lookup f = some ⟨oc, od, .func (PySem.W.fnOf name qual params body scope dV kV doc pm an cdv ct), osl⟩) (code : PySem.W.codeIn K cdv qual = true) (S : FnScope N ps scope) (len : ∀ vs H Q E, sp vs H Q E → vs.length = ps.length)
    (inner : ∀ (A : Around) (outer : List PySem.Env) (s : Shared) (H : Hp) (vs : List V) (Q : VK) (E : XK), (bb = true → A.guards = some []) → Room k (A.deeper (envOfC qual scope s.heap.objs.size f cdv)) → sp vs H Q E →
      ∃ t, PSs (cxOf CX P w K mg base N qual scope f cdv A outer s H E) body t ∧ t { nx := fun _ H' => Q .non H', rt := Q } (L2.start N vs) H) :
    FnG P w K mg base CX bb (k + 1) f (PySem.W.fnOf name qual params body scope dV kV doc pm an cdv ct) ps sp := by
  refine ⟨len, ?_⟩
  intro A outer s H args us vs Q E gd hr e0 bind rel want
  have many := len _ _ _ _ want
  have old : ∀ b o, base.get? b = some o → s.heap.get? b = some o := fun b o z => (e0.bs b o z).1
  have here : K.In s.heap := e0.mod.kin.keeps old
  have kinds : ∀ y ∈ ps.zip us, scope.names.lookup y.1 = some .local ∨ (scope.names.lookup y.1 = some .cell ∧ ((cellsFrom (s.heap.objs.size + 1) scope.names []).lookup y.1).isSome = true) := by
    intro y hy
    rcases S.par y.1 (List.of_mem_zip hy).1 with z | z
    · exact Or.inl z
    · exact Or.inr ⟨z, PySem.W.cellsFrom_some _ _ _ (Or.inl z)⟩
  refine codeAny_call_function hr.depth (here _ _ lk) rfl S.co S.gen rfl (PySem.W.codeRec_of here code) (bind _ _ _ _ ?_)
  refine wpAny_newFunctionEnv_cells S.kind kinds ?_
  intro env he s1 x
  subst he
  refine ⟨(e0.mod.nolimit.keeps old).keeps x.toInCall.keep, codeAny_func ?_⟩
  obtain ⟨t, ht, hq⟩ := inner A outer s H vs Q E gd (hr.deeper _) want
  have I0 := inv_start (CX := CX) (E := E) S hr.hd e0 many rel x
  refine wpAny_mono (ht.run [] s1 (L2.start N vs) H _ I0 hq) ?_ (fun e s' z => z)
  intro fl s' z
  have done : ∀ {σ' : L2.St} {H' : Hp} {v : V} {u : Value}, Inv (cxOf CX P w K mg base N qual scope f cdv A outer s H E) [] σ' H' s' → RelV v u → Q v H' → L2.CE outer P w H s Q u s' := by
    intro σ' H' v u J rv q
    exact ⟨v, H', J.os, J.bare, J.base, J.hok, rv, q⟩
  match fl, z with
  | .ret u, ⟨v, σ', H', J, rv, q⟩ => exact done J rv q
  | .next, ⟨σ', H', J, q⟩ => exact done (v := V.non) (u := Value.none) J rfl q
  | .brk, ⟨_, _, _, q⟩ => exact False.elim q
  | .cont, ⟨_, _, _, q⟩ => exact False.elim q
end
section
variable {g : G} {Γ : List Sl} {e a b c : Expr} {pos p1 : Pos}
theorem Post.toD {F H : Hp} {σ : L2.St} {Q : VK} {r : R D} (h : Post g (rD g.X.K g.C) F H σ Q r) : PostD g.X.K g.C F H Q (WE g.W σ) r := by
  cases r with
  | ok d => exact h
  | ex c x => exact h
  | un => exact h
/-- f(a, ..): a def of the module, all parameters written -/
theorem ce_callA {bb : Bool} {k : Nat} {f : Addr} {fd : FuncData} {ps : List Str} {m : List D → R D} {x : Str} {es : List Expr} {r : R (List D)} {dvs : List V} {ds : List Value} {dds : List D} (Fn : FnG g.X.prog g.X.w g.X.K g.X.mg g.X.base (L2.CX g.X.prog g.X.w) bb k f fd ps (spD g.X.K g.C m)) (hbb : bb = true → g.b = true) (hr : Room k g.X.A)
    (hm : g.X.mg x = some (.ref f)) (hk : PySem.W.keepIn g.X.K (.ref f) = true) (hb : Binds g.X.K fd ps ds) (hd : Vals dvs ds) (hdd : ∀ F, RpA g.X.K g.C F dvs dds) (ha : CA g (a :: es) Γ r) (hg : Gl g.X x := by rfl) (hdb : (x == ("__debug__" : Str)) = false := by decide)
    (he : starEach (a :: es) g.X.env = (false, eval a g.X.env) :: starEach es g.X.env := by rfl) (hpl : (backTo pos (starEach es g.X.env)).any (·.1) = false := by rfl) :
    CE g (.Call (.Name x p1) (a :: es) [] pos) Γ (r >>= fun ds => m (ds ++ dds)) := .mk fun F H σ Q E p =>
  wE_of (pe_callG Fn (fun z => g.gd (hbb z)) hr hg hm hk hb hd g.ps (pa_w _ _) hdb he hpl) (ha F H σ _ E (p.seq fun xs vs F1 H1 g1 r1 p1 => ⟨F1, xs ++ dds, g1.fh, g.tabs (E.toBas.grow g1), RpA.append r1 (hdd F1), p1.toD⟩))
end

/-! ## statements -/
/-- a statement's end: what it leaves, or what is returned -/
inductive Fl (T S : Type) where
  | nx (s : S) | rt (t : T)
/-- how what is returned is borne -/
structure Ret (T : Type) where
  r : Hp → Hp → V → T → Prop
/-- data is returned -/
def ζD (K : PySem.W.Frag) (C : Ctab) : Ret D := ⟨fun F _ v d => Rp K C F v d⟩

/-- one after the other -/
def M.seq {T S1 S : Type} (m : R (Fl T S1)) (k : S1 → R (Fl T S)) : R (Fl T S) := R.bind m fun f => match f with
  | .nx s => k s
  | .rt d => .ok (.rt d)
@[simp] theorem seq_nx {T S1 S : Type} (s : S1) (k : S1 → R (Fl T S)) : M.seq (.ok (.nx s) : R (Fl T S1)) k = k s := rfl
@[simp] theorem seq_rt {T S1 S : Type} (d : T) (k : S1 → R (Fl T S)) : M.seq (.ok (.rt d) : R (Fl T S1)) k = .ok (.rt d) := rfl
@[simp] theorem seq_ex {T S1 S : Type} (c : Str) (d : D) (k : S1 → R (Fl T S)) : M.seq (.ex c d : R (Fl T S1)) k = .ex c d := rfl
@[simp] theorem seq_un {T S1 S : Type} (k : S1 → R (Fl T S)) : M.seq (.un : R (Fl T S1)) k = .un := rfl
section
variable {T S : Type}
def PostS (g : G) (ζ : Ret T) (γ : S → List Sl) (D : Ends) (F : Hp) : R (Fl T S) → Prop
  | .ok (.nx s) => ∀ σ' F' H', Ex F F' → g.Env F' H' σ' (γ s) → D.nx σ' H'
  | .ok (.rt d) => ∀ v F' H', Bas g.B g.F0 F' H' → ζ.r F' H' v d → D.rt v H'
  | .ex c x => ∀ cl dx σ' F' H', Bas g.B g.F0 F' H' → ExR g.X.K g.C F' cl dx c x → g.W cl (some dx) σ' H'
  | .un => False
def wS (X : Cx) (st : Stmt) : TS := fun D σ H => ∀ pins s, Inv X pins σ H s → wpAny (model X.prog X.w) X.A (exec st X.env) (SP X pins D) X.xe s
theorem ps_w (X : Cx) (st : Stmt) : PS X st (wS X st) := ⟨fun pins s _ _ _ I h => h pins s I⟩
theorem wS_of {X : Cx} {st : Stmt} {t : TS} (p : PS X st t) {σ : L2.St} {H : Hp} {D : Ends} (h : t D σ H) : wS X st D σ H := fun pins s I => p.run pins s σ H D I h
def wB (X : Cx) (sts : List Stmt) : TS := fun D σ H => ∀ pins s, Inv X pins σ H s → wpAny (model X.prog X.w) X.A (execs sts X.env) (SP X pins D) X.xe s
theorem pss_w (X : Cx) (sts : List Stmt) : PSs X sts (wB X sts) := ⟨fun pins s _ _ _ I h => h pins s I⟩
theorem wB_of {X : Cx} {sts : List Stmt} {t : TS} (p : PSs X sts t) {σ : L2.St} {H : Hp} {D : Ends} (h : t D σ H) : wB X sts D σ H := fun pins s I => p.run pins s σ H D I h
/-- a statement, a block leads from Γ to γ of its answer -/
structure CS (g : G) (ζ : Ret T) (γ : S → List Sl) (st : Stmt) (Γ : List Sl) (r : R (Fl T S))  : Prop where
  h : ∀ F H σ Dn, g.Env F H σ Γ → PostS g ζ γ Dn F r → wS g.X st Dn σ H
instance (g : G) (ζ : Ret T) (γ : S → List Sl) (st : Stmt) (Γ : List Sl) (r : R (Fl T S))  : CoeFun (CS g ζ γ st Γ r) (fun _ => ∀ F H σ Dn, g.Env F H σ Γ → PostS g ζ γ Dn F r → wS g.X st Dn σ H) := ⟨CS.h⟩
structure CB (g : G) (ζ : Ret T) (γ : S → List Sl) (sts : List Stmt) (Γ : List Sl) (r : R (Fl T S))  : Prop where
  h : ∀ F H σ Dn, g.Env F H σ Γ → PostS g ζ γ Dn F r → wB g.X sts Dn σ H
instance (g : G) (ζ : Ret T) (γ : S → List Sl) (sts : List Stmt) (Γ : List Sl) (r : R (Fl T S))  : CoeFun (CB g ζ γ sts Γ r) (fun _ => ∀ F H σ Dn, g.Env F H σ Γ → PostS g ζ γ Dn F r → wB g.X sts Dn σ H) := ⟨CB.h⟩
end

section
variable {T S S1 α : Type} {g : G} {ζ : Ret T} {Γ Γ' : List Sl} {γ : S → List Sl} {γ1 : S1 → List Sl} {e a b c : Expr} {pos p1 p2 : Pos} {st : Stmt} {sts : List Stmt} {Dn : Ends}
theorem PostS.mono {r : R (Fl T S)} {F F1 : Hp} (h : PostS g ζ γ Dn F r) (x : Ex F F1) : PostS g ζ γ Dn F1 r := by
  cases r with
  | ok f =>
    cases f with
    | nx s => exact fun σ' F' H' e E => h σ' F' H' (x.trans e) E
    | rt d => exact h
  | ex c x => exact h
  | un => exact h
theorem PostS.seq {r : R (Fl T S1)} {k : S1 → R (Fl T S)} {F : Hp} (h : PostS g ζ γ Dn F (M.seq r k)) {N B C : L2.St → Hp → Prop} (go : ∀ s σ' F' H', Ex F F' → g.Env F' H' σ' (γ1 s) → PostS g ζ γ Dn F' (k s) → N σ' H') : PostS g ζ γ1 { Dn with nx := N, bk := B, ct := C } F r := by
  cases r with
  | ok f =>
    cases f with
    | nx s =>
      have h' : PostS g ζ γ Dn F (k s) := h
      exact fun σ' F' H' e E => go s σ' F' H' e E (h'.mono e)
    | rt d => exact h
  | ex c x => exact h
  | un => exact h
/-- ahead of a statement an expression -/
theorem PostS.expr {β : Type} {ρ : Rep β α} {r : R α} {k : α → R (Fl T S)} {F H : Hp} {σ : L2.St} {Q : β → Hp → Prop} (E : g.Env F H σ Γ) (h : PostS g ζ γ Dn F (r >>= k)) (go : ∀ x v F1 H1, Gr F H F1 H1 → ρ.r H F1 H1 v x → g.Env F1 H1 σ Γ → PostS g ζ γ Dn F1 (k x) → Q v H1) : Post g ρ F H σ Q r := by
  cases r with
  | ok x =>
    have h' : PostS g ζ γ Dn F (k x) := h
    exact fun v F1 H1 g1 r1 => go x v F1 H1 g1 r1 (E.grow g1) (h'.mono g1.f)
  | ex c x => exact fun cl dx F' H' gr er => h cl dx σ F' H' (E.toBas.grow gr) er
  | un => exact h

theorem cb_nil (s : S) (w : Wk Γ (γ s)) : CB g ζ γ [] Γ (.ok (.nx s)) := .mk fun F H σ Dn E p => wB_of pss_nil (p σ F H (Ex.refl _) (E.weak w))
theorem cb_cons {r1 : R (Fl T S1)} {r2 : S1 → R (Fl T S)} (h1 : CS g ζ γ1 st Γ r1) (h2 : ∀ s, CB g ζ γ sts (γ1 s) (r2 s)) : CB g ζ γ (st :: sts) Γ (M.seq r1 r2) := .mk fun F H σ Dn E p =>
  wB_of (pss_cons (ps_w _ st) (pss_w _ sts)) (h1 F H σ _ E (p.seq fun s σ' F' H' e E' p' => h2 s F' H' σ' Dn E' p'))
theorem cb_one {r : R (Fl T S)} (h : CS g ζ γ st Γ r) : CB g ζ γ [st] Γ r := .mk fun F H σ Dn E p => wB_of (pss_one (ps_w _ st)) (h F H σ Dn E p)
/-- an own list is frozen ahead of what follows -/
theorem cb_freeze (i : Nat) {xs : List D} {r : R (Fl T S)} (hi : Γ[i]? = some (.l xs) := by rfl) (h : CB g ζ γ sts (Γ.set i (.d (.lst xs))) r) : CB g ζ γ sts Γ r := .mk fun F H σ Dn E p => by
  obtain ⟨F', x, E'⟩ := EnvOk.freeze E hi
  exact h F' H σ Dn E' (p.mono x)
theorem cb_weak {r : R (Fl T S)} (w : Wk Γ Γ') (h : CB g ζ γ sts Γ' r) : CB g ζ γ sts Γ r := .mk fun F H σ Dn E p => h F H σ Dn (E.weak w) p

/-- x = e; .. -/
theorem cb_set (i : Nat) {n : Str} {r : R D} {k : D → R (Fl T S)} (h : CE g e Γ r) (h2 : ∀ x, CB g ζ γ sts (Γ.set i (.d x)) (k x)) (nd : g.X.N.Nodup) (hi : g.X.N[i]? = some n := by rfl) (hx : Loc g.X.env.scope n := by first | exact Or.inl rfl | exact Or.inr rfl)
    (hf : g.X.fn n = true ∨ g.X.env.scope.names.lookup n = some .local := by first | exact .inl rfl | exact .inr rfl) (hs : swapsWith e (some (.Name n p1)) pos.line g.X.env = pure false := by rfl) :
    CB g ζ γ (.Assign [.Name n p1] e pos :: sts) Γ (r >>= k) := .mk fun F H σ Dn E p =>
  wB_of (pss_cons (ps_set nd hi hx (pe_w _ e) hs hf) (pss_w _ sts)) (h F H σ _ E (p.expr E fun x v F1 H1 g1 r1 E1 p' => h2 x F1 H1 _ Dn (E1.set_d i r1) p'))
/-- x = a new list; .. -/
theorem cb_setN (i : Nat) {n : Str} {r : R (List D)} {k : List D → R (Fl T S)} (h : CN g e Γ r) (h2 : ∀ x, CB g ζ γ sts (Γ.set i (.l x)) (k x)) (nd : g.X.N.Nodup) (hi : g.X.N[i]? = some n := by rfl) (hx : Loc g.X.env.scope n := by first | exact Or.inl rfl | exact Or.inr rfl)
    (hf : g.X.fn n = true ∨ g.X.env.scope.names.lookup n = some .local := by first | exact .inl rfl | exact .inr rfl) (hs : swapsWith e (some (.Name n p1)) pos.line g.X.env = pure false := by rfl) :
    CB g ζ γ (.Assign [.Name n p1] e pos :: sts) Γ (r >>= k) := .mk fun F H σ Dn E p =>
  wB_of (pss_cons (ps_set nd hi hx (pe_w _ e) hs hf) (pss_w _ sts)) (h F H σ _ E (p.expr E fun x v F1 H1 g1 r1 E1 p' => by
    obtain ⟨q, vs, rfl, h0, hf, hh, ra⟩ := r1
    refine h2 x F1 H1 _ Dn (E1.set_own i ⟨q, vs, rfl, E1.eb.back' h0 E.eb, hf, hh, ra⟩ fun j t _ e ow hs => ?_) p'
    obtain ⟨⟨o, q1, _⟩, _⟩ := EnvOk.own_at E e ow hs
    rw [h0] at q1
    cases q1))
/-- e; .. -/
theorem cb_expr {ρ : Rep V α} {r : R α} {k : α → R (Fl T S)} (h : CG g ρ e Γ r) (h2 : ∀ x, CB g ζ γ sts Γ (k x)) (hs : swapsWith e none pos.line g.X.env = pure false := by rfl) : CB g ζ γ (.Expr e pos :: sts) Γ (r >>= k) := .mk fun F H σ Dn E p =>
  wB_of (pss_cons (ps_expr (pe_w _ e) hs) (pss_w _ sts)) (h F H σ _ E (p.expr E fun x v F1 H1 g1 r1 E1 p' => h2 x F1 H1 _ Dn E1 p'))
/-- return e -/
theorem cb_retZ {r : R D} (z : D → T) (h : CE g e Γ r) (hz : ∀ F H σ v d, g.Env F H σ Γ → Rp g.X.K g.C F v d → ζ.r F H v (z d)) : CB g ζ γ (.Return (some e) pos :: sts) Γ (r >>= fun x => .ok (.rt (z x))) := .mk fun F H σ Dn E p =>
  wB_of (pss_cons (ps_ret (pe_w _ e)) (pss_w _ sts)) (h F H σ _ E (p.expr E fun x v F1 H1 g1 r1 E1 p' => p' v F1 H1 E1.toBas (hz F1 H1 σ v x E1 r1)))
theorem cb_ret {γ : S → List Sl} {r : R D} (h : CE g e Γ r) : CB g (ζD g.X.K g.C) γ (.Return (some e) pos :: sts) Γ (r >>= fun x => .ok (.rt x)) := cb_retZ id h fun _ _ _ _ _ _ q => q
theorem cb_retN {γ : S → List Sl} : CB g (ζD g.X.K g.C) γ (.Return none pos :: sts) Γ (.ok (.rt .non)) := .mk fun F H σ Dn E p =>
  wB_of (pss_cons ps_retN (pss_w _ sts)) (p .non F H E.toBas .non)
theorem cb_pass {r : R (Fl T S)} (h : CB g ζ γ sts Γ r) : CB g ζ γ (.Pass pos :: sts) Γ r := .mk fun F H σ Dn E p => wB_of (pss_cons ps_pass (pss_w _ sts)) (h F H σ Dn E p)
theorem cs_pass (s : S) (w : Wk Γ (γ s)) : CS g ζ γ (.Pass pos) Γ (.ok (.nx s)) := .mk fun F H σ Dn E p => wS_of ps_pass (p σ F H (Ex.refl _) (E.weak w))
/-- if -/
theorem cs_if {A B : List Stmt} {r : R Bool} {ra rb : R (Fl T S)} (h : CT g e Γ r) (ha : CB g ζ γ A Γ ra) (hb : CB g ζ γ B Γ rb) : CS g ζ γ (.If e A B pos) Γ (r >>= fun b => if b = true then ra else rb) := .mk fun F H σ Dn E p =>
  wS_of (ps_if (pt_w _ e) (pss_w _ A) (pss_w _ B)) (h F H σ _ E (p.expr E fun x v F1 H1 g1 r1 E1 p' => by
    obtain rfl : v = x := r1
    cases v with
    | true => exact ha F1 H1 σ Dn E1 p'
    | false => exact hb F1 H1 σ Dn E1 p'))
/-- code that is not come to -/
theorem cb_never : CB g ζ γ sts Γ .un := .mk fun F H σ Dn E p => (show False from p).elim
theorem cs_never : CS g ζ γ st Γ .un := .mk fun F H σ Dn E p => (show False from p).elim
theorem ce_never {ρ : Rep V α} : CG g ρ e Γ .un := .mk fun F H σ Q E p => (show False from p).elim
end
end DL
end
section
set_option Elab.async false
set_option linter.all false
set_option maxRecDepth 100000
set_option maxHeartbeats 2000000
set_option autoImplicit false
namespace DL
open PySem PySem.Spec PyProof.Rows L2
variable [TN]

/-! ## what is walked -/
def wI (X : Cx) (tg iter : Expr) : TI := fun σ H Rr => ∀ pins s, Inv X pins σ H s → wpAny (model X.prog X.w) X.A (eval iter X.env) (fun v s1 => wpAny (model X.prog X.w) X.A (pyIter v) (PIE X pins σ tg Rr) X.xe s1) X.xe s
theorem pi_w (X : Cx) (tg iter : Expr) : PI X tg iter (wI X tg iter) := ⟨fun pins s _ _ _ I h => h pins s I⟩
theorem wI_of {X : Cx} {tg iter : Expr} {t : TI} (p : PI X tg iter t) {σ : L2.St} {H : Hp} {Rr : It → Hp → Prop} (h : t σ H Rr) : wI X tg iter σ H Rr := fun pins s I => p.run pins s σ H Rr I h
/-- while F is kept the iterator gives xs, one after another -/
def Wlk (K : PySem.W.Frag) (C : Ctab) (F : Hp) (J : It) (xs : List D) : Prop := ∀ (i : Nat) (F2 H2 : Hp), Ex F F2 → Ex F2 H2 → (xs.length ≤ i → J.stop i H2) ∧
  ∀ x, xs[i]? = some x → J.go i H2 ∧ ∀ v H3, J.yld i H2 v H3 → ∃ F3, Gr F2 H2 F3 H3 ∧ Rp K C F3 v x
def PostI (g : G) (F H : Hp) (σ : L2.St) (Rr : It → Hp → Prop) : R (List D) → Prop
  | .ok xs => ∀ J F' H', Gr F H F' H' → Wlk g.X.K g.C F' J xs → Rr J H'
  | .ex c x => ∀ cl dx F' H', Gr F H F' H' → ExR g.X.K g.C F' cl dx c x → g.W cl (some dx) σ H'
  | .un => False
structure CI (g : G) (tg iter : Expr) (Γ : List Sl) (r : R (List D))  : Prop where
  h : ∀ F H σ Rr, g.Env F H σ Γ → PostI g F H σ Rr r → wI g.X tg iter σ H Rr
instance (g : G) (tg iter : Expr) (Γ : List Sl) (r : R (List D))  : CoeFun (CI g tg iter Γ r) (fun _ => ∀ F H σ Rr, g.Env F H σ Γ → PostI g F H σ Rr r → wI g.X tg iter σ H Rr) := ⟨CI.h⟩
theorem PostI.mono {g : G} {F H F1 H1 : Hp} {σ : L2.St} {Rr : It → Hp → Prop} {r : R (List D)} (h : PostI g F H σ Rr r) (gr : Gr F H F1 H1) : PostI g F1 H1 σ Rr r := by
  cases r with
  | ok a => exact fun J F' H' g' w => h J F' H' (gr.trans g') w
  | ex c x => exact fun cl dx F' H' g' r => h cl dx F' H' (gr.trans g') r
  | un => exact h
theorem PostI.seq {α β : Type} {g : G} {ρ : Rep β α} {F H : Hp} {σ : L2.St} {Rr : It → Hp → Prop} {Q : β → Hp → Prop} {r : R α} {k : α → R (List D)} (h : PostI g F H σ Rr (r >>= k))
    (go : ∀ a b F1 H1, Gr F H F1 H1 → ρ.r H F1 H1 b a → PostI g F1 H1 σ Rr (k a) → Q b H1) : Post g ρ F H σ Q r := by
  cases r with
  | ok a =>
    have h' : PostI g F H σ Rr (k a) := h
    exact fun b F1 H1 g1 r1 => go a b F1 H1 g1 r1 (h'.mono g1)
  | ex c x => exact h
  | un => exact h

section
variable {g : G} {Γ : List Sl} {tg e a b : Expr} {pos p1 : Pos} {K : PySem.W.Frag} {C : Ctab} {F : Hp}
theorem PI.or {X : Cx} {w1 w2 : TI} (h1 : PI X tg e w1) (h2 : PI X tg e w2) : PI X tg e (fun σ H R => w1 σ H R ∨ w2 σ H R) := ⟨fun pins s σ H R I h => by
  rcases h with h | h
  · exact h1.run pins s σ H R I h
  · exact h2.run pins s σ H R I h⟩
theorem wlk_tup {a : Addr} {vs : List V} {xs : List D} (h : SqT K F a vs) (r : RpA K C F vs xs) : Wlk K C F (Itt K a) xs := fun i F2 H2 e1 e2 => by
  have hs : SqT K H2 a vs := ex_t (e1.trans e2) h
  refine ⟨fun hl => ⟨vs, hs, by rw [r.length]; exact hl⟩, fun x hx => ?_⟩
  obtain ⟨v, h1, h2⟩ := r.get hx
  exact ⟨⟨vs, v, hs, h1⟩, fun w H3 ⟨q, y⟩ => by
    subst q
    have ew := y vs hs
    rw [h1] at ew
    cases ew
    exact ⟨F2, Gr.refl e2, h2.mono e1⟩⟩
theorem wlk_lst {a : Addr} {vs : List V} {xs : List D} (h : SqL K F a vs) (r : RpA K C F vs xs) : Wlk K C F (Itl K a) xs := fun i F2 H2 e1 e2 => by
  have hs : SqL K H2 a vs := ex_l (e1.trans e2) h
  refine ⟨fun hl => ⟨vs, hs, by rw [r.length]; exact hl⟩, fun x hx => ?_⟩
  obtain ⟨v, h1, h2⟩ := r.get hx
  exact ⟨⟨vs, v, hs, h1⟩, fun w H3 ⟨q, y⟩ => by
    subst q
    have ew := y vs hs
    rw [h1] at ew
    cases ew
    exact ⟨F2, Gr.refl e2, h2.mono e1⟩⟩
/-- the signs of a text -/
def signs (x : Str) : List D := x.cps.toList.map fun c => D.str ⟨#[c]⟩
theorem wlk_str (x : Str) : Wlk K C F (Its x) (signs x) := fun i F2 H2 e1 e2 => by
  refine ⟨fun hl => ?_, fun y hy => ?_⟩
  · show x.cps.size ≤ i
    unfold signs at hl
    simpa using hl
  · unfold signs at hy
    rw [List.getElem?_map] at hy
    cases q : x.cps.toList[i]? with
    | none =>
      rw [q] at hy
      cases hy
    | some c =>
      rw [q] at hy
      cases hy
      have hi : i < x.cps.size := by
        have := (List.getElem?_eq_some_iff.mp q).1
        simpa using this
      refine ⟨hi, fun w H3 ⟨z, c', h1, h2⟩ => ?_⟩
      subst z h2
      have q' : x.cps[i]? = some c := by
        rw [← Array.getElem?_toList]
        exact q
      rw [h1] at q'
      cases q'
      exact ⟨F2, Gr.refl e2, .str _⟩
def rangeD (lo hi : Int) : List D := (List.range (hi - lo).toNat).map fun (k : Nat) => D.int (lo + k)
theorem wlk_range (lo : Int) (n : Nat) : Wlk K C F (Itr lo n) ((List.range n).map fun (k : Nat) => D.int (lo + k)) := fun i F2 H2 e1 e2 => by
  refine ⟨fun hl => ?_, fun y hy => ?_⟩
  · show n ≤ i
    simpa using hl
  · rw [List.getElem?_map] at hy
    by_cases hi : i < n
    · rw [List.getElem?_range hi] at hy
      cases hy
      exact ⟨hi, fun w H3 ⟨z, z2⟩ => by
        subst z z2
        exact ⟨F2, Gr.refl e2, .int _⟩⟩
    · rw [List.getElem?_eq_none (by simpa using hi)] at hy
      cases hy
def enumL (n : Nat) : List D → List D
  | [] => []
  | x :: xs => .tup [.int n, x] :: enumL (n + 1) xs
theorem enumL_get : ∀ (xs : List D) (n i : Nat), (enumL n xs)[i]? = (xs[i]?).map fun x => D.tup [.int ((n + i : Nat) : Int), x]
  | [], _, _ => by simp [enumL]
  | x :: xs, n, 0 => by simp [enumL]
  | x :: xs, n, i + 1 => by
    show (enumL (n + 1) xs)[i]? = (xs[i]?).map _
    rw [enumL_get xs (n + 1) i, show n + 1 + i = n + (i + 1) by omega]
theorem enumL_len : ∀ (xs : List D) (n : Nat), (enumL n xs).length = xs.length
  | [], _ => rfl
  | _ :: xs, n => congrArg (· + 1) (enumL_len xs (n + 1))
theorem wlk_enum {a : Addr} {vs : List V} {xs : List D} (h : SqL K F a vs) (r : RpA K C F vs xs) : Wlk K C F (Ite K a) (enumL 0 xs) := fun i F2 H2 e1 e2 => by
  have hs : SqL K H2 a vs := ex_l (e1.trans e2) h
  refine ⟨fun hl => ⟨vs, hs, by rw [r.length, ← enumL_len xs 0]; exact hl⟩, fun y hy => ?_⟩
  rw [enumL_get] at hy
  cases q : xs[i]? with
  | none =>
    rw [q] at hy
    cases hy
  | some x =>
    rw [q] at hy
    cases hy
    obtain ⟨v, h1, h2⟩ := r.get q
    refine ⟨⟨vs, v, hs, h1⟩, fun w H3 ⟨T, u, z1, z2, z3, z4⟩ => ?_⟩
    subst z1 z3
    have ew := z4 vs hs
    rw [h1] at ew
    cases ew
    have gr : Gr F2 H2 (upd F2 T (.tup [.int (i : Nat), v])) (upd H2 T (.tup [.int (i : Nat), v])) := Gr.alloc e2 z2
    refine ⟨_, gr, .tup (SqT.of upd_same) (.cons ?_ (.cons ((h2.mono e1).mono gr.f) .nil))⟩
    rw [Nat.zero_add]
    exact .int _
/-- data that is walked: a tuple, a list, a text -/
def D.items : D → Option (List D)
  | .tup l => some l
  | .lst l => some l
  | .str x => some (signs x)
  | _ => none
theorem ci_data {r : R D} (h : CE g e Γ r) : CI g tg e Γ (r >>= fun x => .of x.items) := .mk fun F H σ Rr E p => by
  refine wI_of (PI.or (pi_tup (pe_w _ e)) (PI.or (pi_list (pe_w _ e)) (pi_str (pe_w _ e)))) ?_
  cases r with
  | un => exact .inl (h F H σ _ E p)
  | ex c x => exact .inl (h F H σ _ E p)
  | ok x =>
    cases x with
    | tup l => exact .inl (h F H σ _ E fun v F1 H1 g1 r1 => by
        cases r1 with
        | tup h1 a1 => exact ⟨_, rfl, ⟨_, ex_t g1.fh h1⟩, p _ F1 H1 g1 (wlk_tup h1 a1)⟩)
    | lst l => exact .inr (.inl (h F H σ _ E fun v F1 H1 g1 r1 => by
        cases r1 with
        | lst h1 a1 => exact ⟨_, rfl, ⟨_, SqL.of (g1.fh.at h1)⟩, p _ F1 H1 g1 (wlk_lst (SqL.of h1) a1)⟩))
    | str z => exact .inr (.inr (h F H σ _ E fun v F1 H1 g1 r1 => ⟨z, str_of r1, p _ F1 H1 g1 (wlk_str z)⟩))
    | _ => exact (show False from p).elim
/-- a new list walked -/
theorem ci_new {r : R (List D)} (h : CN g e Γ r) : CI g tg e Γ r := by
  have h' := ci_data (tg := tg) h.fz
  simp only [R.assoc, bind_ok] at h'
  rw [show (r >>= fun xs => R.of (D.lst xs).items) = r from by cases r <;> rfl] at h'
  exact h'
/-- range(b), range(a, b) -/
def rngOk (i : Int) : Bool := decide (i.natAbs ≤ 1000000000)
def range1 : D → Option (List D)
  | .int j => if rngOk j = true then some ((List.range j.toNat).map fun (k : Nat) => D.int (0 + k)) else none
  | _ => none
def range2 : D → D → Option (List D)
  | .int i, .int j => if rngOk i = true ∧ rngOk j = true then some ((List.range (j - i).toNat).map fun (k : Nat) => D.int (i + k)) else none
  | _, _ => none
theorem ci_range1 {r : R D} (h : CE g a Γ r) (hm : g.X.mg "range" = none) (hg : Gl g.X "range" := by rfl) (h1 : starEach [a] g.X.env = [(false, eval a g.X.env)] := by rfl) :
    CI g tg (.Call (.Name "range" p1) [a] [] pos) Γ (r >>= fun x => .of (range1 x)) := .mk fun F H σ Rr E p => by
  refine wI_of (pi_range1 hg hm (pa_cons (pe_w _ a) pa_nil h1) h1) ?_
  refine h F H σ _ E (p.seq fun x v F1 H1 g1 r1 p1 => ?_)
  cases x <;> try (exact (show False from p1).elim)
  rename_i j
  unfold range1 at p1
  dsimp only at p1
  split at p1
  · rename_i ok
    have ok' := of_decide_eq_true ok
    refine ⟨j, by rw [int_of r1], by omega, by omega, ?_⟩
    exact p1 _ F1 H1 (Gr.refl g1.fh) (wlk_range 0 j.toNat)
  · exact (show False from p1).elim
theorem ci_range2 {r r2 : R D} (h : CE g a Γ r) (h2 : CE g b Γ r2) (hm : g.X.mg "range" = none) (hg : Gl g.X "range" := by rfl) (s1 : starEach [a, b] g.X.env = [(false, eval a g.X.env), (false, eval b g.X.env)] := by rfl) (s2 : starEach [b] g.X.env = [(false, eval b g.X.env)] := by rfl) :
    CI g tg (.Call (.Name "range" p1) [a, b] [] pos) Γ (r >>= fun x => r2 >>= fun y => .of (range2 x y)) := .mk fun F H σ Rr E p => by
  refine wI_of (pi_range2 hg hm (pa_cons (pe_w _ a) (pa_cons (pe_w _ b) pa_nil s2) (by rw [s1, s2])) s1 s2) ?_
  refine h F H σ _ E (p.seq fun x v F1 H1 g1 r1 p1 => h2 F1 H1 σ _ (E.grow g1) (p1.seq fun y w F2 H2 g2 r2' p2 => ?_))
  cases x <;> cases y <;> try (exact (show False from p2).elim)
  rename_i i j
  unfold range2 at p2
  dsimp only at p2
  split at p2
  · rename_i ok
    have ok1 := of_decide_eq_true ok.1
    have ok2 := of_decide_eq_true ok.2
    refine ⟨i, j, by rw [int_of r1, int_of r2'], ⟨by omega, by omega, by omega, by omega⟩, ?_⟩
    exact p2 _ F2 H2 (Gr.refl g2.fh) (wlk_range i (j - i).toNat)
  · exact (show False from p2).elim
/-- enumerate(a new list) -/
theorem ci_enumN {r : R (List D)} {elts : List Expr} {kk : Nat} {tpos : Pos} (h : CN g a Γ r) (hm : g.X.mg "enumerate" = none) (hg : Gl g.X "enumerate" := by rfl) (h1 : starEach [a] g.X.env = [(false, eval a g.X.env)] := by rfl) :
    CI g (.Tuple elts kk tpos) (.Call (.Name "enumerate" p1) [a] [] pos) Γ (r >>= fun xs => .ok (enumL 0 xs)) := .mk fun F H σ Rr E p => by
  refine wI_of (pi_enum hg hm (pa_cons (pe_w _ a) pa_nil h1) h1) ?_
  refine h.fz F H σ _ E ?_
  refine PostI.seq (k := fun x => R.of (x.asL.map (enumL 0))) (by
    rw [R.assoc]
    exact p) fun x v F1 H1 g1 r1 p1 => ?_
  cases x <;> try (exact (show False from p1).elim)
  rename_i l
  cases r1 with
  | lst h1 a1 => exact ⟨_, _, rfl, SqL.of (g1.fh.at h1), p1 _ F1 H1 (Gr.refl g1.fh) (wlk_enum (SqL.of h1) a1)⟩
/-- enumerate(data that is a list) -/
theorem ci_enum {r : R D} {elts : List Expr} {kk : Nat} {tpos : Pos} (h : CE g a Γ r) (hm : g.X.mg "enumerate" = none) (hg : Gl g.X "enumerate" := by rfl) (h1 : starEach [a] g.X.env = [(false, eval a g.X.env)] := by rfl) :
    CI g (.Tuple elts kk tpos) (.Call (.Name "enumerate" p1) [a] [] pos) Γ (r >>= fun x => .of (x.asL.map (enumL 0))) := .mk fun F H σ Rr E p => by
  refine wI_of (pi_enum hg hm (pa_cons (pe_w _ a) pa_nil h1) h1) ?_
  refine h F H σ _ E (p.seq fun x v F1 H1 g1 r1 p1 => ?_)
  cases x <;> try (exact (show False from p1).elim)
  cases r1 with
  | lst h1 a1 => exact ⟨_, _, rfl, SqL.of (g1.fh.at h1), p1 _ F1 H1 (Gr.refl g1.fh) (wlk_enum (SqL.of h1) a1)⟩
end

/-! ## loops -/
def forD {T S : Type} (f : S → D → R (Fl T S)) : List D → S → R (Fl T S)
  | [], s => .ok (.nx s)
  | x :: xs, s => M.seq (f s x) (forD f xs)
def whileD {T S : Type} (c : S → R Bool) (f : S → R (Fl T S)) : Nat → S → R (Fl T S)
  | 0, _ => .un
  | n + 1, s => c s >>= fun b => if b = true then M.seq (f s) (whileD c f n) else .ok (.nx s)
section
variable {T S : Type} {g : G} {ζ : Ret T} {Γ : List Sl} {γ : S → List Sl} {c tg iter : Expr} {body : List Stmt} {pos p1 : Pos}
/-- what a target does with a piece of data -/
def CP (g : G) (tg : Expr) (Γ Γ' : List Sl) (x : D) : Prop := ∀ F H σ v (Q : L2.St → Hp → Prop), g.Env F H σ Γ → Rp g.X.K g.C F v x → (∀ σ', g.Env F H σ' Γ' → Q σ' H) → ∀ pins s u, Inv g.X pins σ H s → RelV v u →
    wpAny (model g.X.prog g.X.w) g.X.A (assign tg g.X.env u) (fun _ s' => ∃ σ' H', Inv g.X pins σ' H' s' ∧ Q σ' H') g.X.xe s
theorem cp_name (i : Nat) {n : Str} {x : D} (nd : g.X.N.Nodup) (hi : g.X.N[i]? = some n := by rfl) (hx : Loc g.X.env.scope n := by first | exact Or.inl rfl | exact Or.inr rfl) (hf : g.X.fn n = true ∨ g.X.env.scope.names.lookup n = some .local := by first | exact .inl rfl | exact .inr rfl) :
    CP g (.Name n pos) Γ (Γ.set i (.d x)) x := fun F H σ v Q E r q pins s u I ru => (pg_name nd hi hx hf).run pins s σ H v u Q I ru (q _ (E.set_d i r))
def wG (X : Cx) (tg : Expr) : TG := fun v σ H Q => ∀ pins s u, Inv X pins σ H s → RelV v u → wpAny (model X.prog X.w) X.A (assign tg X.env u) (fun _ s' => ∃ σ' H', Inv X pins σ' H' s' ∧ Q σ' H') X.xe s
theorem pg_w (X : Cx) (tg : Expr) : PG X tg (wG X tg) := ⟨fun pins s _ _ _ u _ I ru h => h pins s u I ru⟩
theorem cp_tup2 (i j : Nat) {n m : Str} {x y : D} {kk : Nat} {p2 : Pos} (hc : g.X.calm = true) (nd : g.X.N.Nodup) (hi : g.X.N[i]? = some n := by rfl) (hx : Loc g.X.env.scope n := by first | exact Or.inl rfl | exact Or.inr rfl) (hf : g.X.fn n = true ∨ g.X.env.scope.names.lookup n = some .local := by first | exact .inl rfl | exact .inr rfl)
    (hj : g.X.N[j]? = some m := by rfl) (hy : Loc g.X.env.scope m := by first | exact Or.inl rfl | exact Or.inr rfl) (hf2 : g.X.fn m = true ∨ g.X.env.scope.names.lookup m = some .local := by first | exact .inl rfl | exact .inr rfl)
    (s1 : (assignEach [.Name n p1, .Name m p2] g.X.env).map (·.2) = assign (.Name n p1) g.X.env :: (assignEach [.Name m p2] g.X.env).map (·.2) := by rfl) (s2 : (assignEach [.Name m p2] g.X.env).map (·.2) = assign (.Name m p2) g.X.env :: (assignEach [] g.X.env).map (·.2) := by rfl)
    (hn : (assignEach [.Name n p1, .Name m p2] g.X.env).length = 2 := by rfl) (hst : (assignEach [.Name n p1, .Name m p2] g.X.env).findIdx? (·.1) = none := by rfl) :
    CP g (.Tuple [.Name n p1, .Name m p2] kk pos) Γ ((Γ.set i (.d x)).set j (.d y)) (.tup [x, y]) := fun F H σ v Q E r q pins s u I ru => by
  refine (pg_tup hc (pgs_cons (pg_name nd hi hx hf) (pgs_cons (pg_name nd hj hy hf2) pgs_nil s2) s1) hn hst).run pins s σ H v u Q I ru ?_
  cases r with
  | tup h1 a1 =>
    cases a1 with
    | cons r1 t1 =>
      cases t1 with
      | cons r2 t2 =>
        cases t2
        exact ⟨_, _, rfl, ex_t E.ef h1, rfl, _, _, rfl, _, _, rfl, rfl, q _ ((E.set_d i r1).set_d j r2)⟩
theorem cp_tup3 (i j k : Nat) {n m l : Str} {x y z : D} {kk : Nat} {p2 p3 : Pos} (hc : g.X.calm = true) (nd : g.X.N.Nodup) (hi : g.X.N[i]? = some n := by rfl) (hx : Loc g.X.env.scope n := by first | exact Or.inl rfl | exact Or.inr rfl) (hf : g.X.fn n = true ∨ g.X.env.scope.names.lookup n = some .local := by first | exact .inl rfl | exact .inr rfl)
    (hj : g.X.N[j]? = some m := by rfl) (hy : Loc g.X.env.scope m := by first | exact Or.inl rfl | exact Or.inr rfl) (hf2 : g.X.fn m = true ∨ g.X.env.scope.names.lookup m = some .local := by first | exact .inl rfl | exact .inr rfl)
    (hk : g.X.N[k]? = some l := by rfl) (hz : Loc g.X.env.scope l := by first | exact Or.inl rfl | exact Or.inr rfl) (hf3 : g.X.fn l = true ∨ g.X.env.scope.names.lookup l = some .local := by first | exact .inl rfl | exact .inr rfl)
    (s1 : (assignEach [.Name n p1, .Name m p2, .Name l p3] g.X.env).map (·.2) = assign (.Name n p1) g.X.env :: (assignEach [.Name m p2, .Name l p3] g.X.env).map (·.2) := by rfl) (s2 : (assignEach [.Name m p2, .Name l p3] g.X.env).map (·.2) = assign (.Name m p2) g.X.env :: (assignEach [.Name l p3] g.X.env).map (·.2) := by rfl)
    (s3 : (assignEach [.Name l p3] g.X.env).map (·.2) = assign (.Name l p3) g.X.env :: (assignEach [] g.X.env).map (·.2) := by rfl)
    (hn : (assignEach [.Name n p1, .Name m p2, .Name l p3] g.X.env).length = 3 := by rfl) (hst : (assignEach [.Name n p1, .Name m p2, .Name l p3] g.X.env).findIdx? (·.1) = none := by rfl) :
    CP g (.Tuple [.Name n p1, .Name m p2, .Name l p3] kk pos) Γ (((Γ.set i (.d x)).set j (.d y)).set k (.d z)) (.tup [x, y, z]) := fun F H σ v Q E r q pins s u I ru => by
  refine (pg_tup hc (pgs_cons (pg_name nd hi hx hf) (pgs_cons (pg_name nd hj hy hf2) (pgs_cons (pg_name nd hk hz hf3) pgs_nil s3) s2) s1) hn hst).run pins s σ H v u Q I ru ?_
  cases r with
  | tup h1 a1 =>
    cases a1 with
    | cons r1 t1 =>
      cases t1 with
      | cons r2 t2 =>
        cases t2 with
        | cons r3 t3 =>
          cases t3
          exact ⟨_, _, rfl, ex_t E.ef h1, rfl, _, _, rfl, _, _, rfl, _, _, rfl, rfl, q _ (((E.set_d i r1).set_d j r2).set_d k r3)⟩
/-- data taken apart: two, three parts -/
def D.two {α : Type} (k : D → D → R α) : D → R α
  | .tup [x, y] => k x y
  | _ => .un
def D.three {α : Type} (k : D → D → D → R α) : D → R α
  | .tup [x, y, z] => k x y z
  | _ => .un
@[simp] theorem two_tup {α : Type} (k : D → D → R α) (x y : D) : D.two k (.tup [x, y]) = k x y := rfl
@[simp] theorem three_tup {α : Type} (k : D → D → D → R α) (x y z : D) : D.three k (.tup [x, y, z]) = k x y z := rfl

/-- a for; f s x the turn with x from the state s; what the target makes of x is told by P -/
theorem cs_forP {f : S → D → R (Fl T S)} {rx : R (List D)} (hi : CI g tg iter Γ rx) (s0 : S) (hΓ : Wk Γ (γ s0)) (hb : ∀ s x, f s x = .un ∨ ∃ Γ', CP g tg (γ s) Γ' x ∧ CB g ζ γ body Γ' (f s x)) (hp : PassesOwn (model g.X.prog g.X.w) g.X.A g.X.env g.X.xe) (hc : g.X.calm = true)
    (hs : ∀ x, foldedSetIterable iter g.X.env x = pure x := by intro _; rfl) : CS g ζ γ (.For tg iter body [] pos) Γ (rx >>= fun xs => forD f xs s0) := .mk fun F H σ Dn E p => by
  refine wS_of (ps_for hp hc (pi_w _ tg iter) (pg_w _ tg) (pss_w _ body) hs) ?_
  refine hi F H σ _ E ?_
  cases rx with
  | un => exact p
  | ex c x => exact fun cl dx F' H' gr er => p cl dx σ F' H' (E.toBas.grow gr) er
  | ok xs =>
    intro J F1 H1 g1 wk
    have p' : PostS g ζ γ Dn F (forD f xs s0) := p
    refine ⟨fun k m σ2 H2 => m = xs.length - k ∧ ∃ s F2, Ex F1 F2 ∧ g.Env F2 H2 σ2 (γ s) ∧ PostS g ζ γ Dn F2 (forD f (xs.drop k) s), ⟨xs.length, rfl, s0, F1, Ex.refl _, (E.grow g1).weak hΓ, by rw [List.drop_zero]; exact p'.mono g1.f⟩, ?_⟩
    rintro k m σ2 H2 ⟨rfl, s, F2, e2, E2, p2⟩
    obtain ⟨w1, w2⟩ := wk k F2 H2 e2 E2.ef
    cases q : xs[k]? with
    | none =>
      have hl : xs.length ≤ k := List.getElem?_eq_none_iff.mp q
      rw [List.drop_eq_nil_of_le hl] at p2
      exact .inl ⟨w1 hl, p2 σ2 F2 H2 (Ex.refl _) E2⟩
    | some x =>
      obtain ⟨hk, ex⟩ := List.getElem?_eq_some_iff.mp q
      obtain ⟨go, y⟩ := w2 x q
      rw [List.drop_eq_getElem_cons hk, ex] at p2
      refine .inr ⟨go, fun σ' H' => ∃ s F2, Ex F1 F2 ∧ g.Env F2 H' σ' (γ s) ∧ PostS g ζ γ Dn F2 (forD f (xs.drop (k + 1)) s), fun σ' H' n => ⟨xs.length - (k + 1), by omega, rfl, n⟩, fun v H3 hy => ?_⟩
      obtain ⟨F3, g3, r3⟩ := y v H3 hy
      have p3 : PostS g ζ γ Dn F2 (M.seq (f s x) (forD f (xs.drop (k + 1)))) := p2
      rcases hb s x with hu | ⟨Γ', hcp, hcb⟩
      · rw [hu] at p3
        exact (show False from p3).elim
      · intro pins s' u I ru
        exact hcp F3 H3 σ2 v _ (E2.grow g3) r3 (fun σ' E' => hcb F3 H3 σ' _ E' ((p3.mono g3.f).seq fun s2 σ4 F4 H4 e4 E4 p4 => ⟨s2, F4, e2.trans (g3.f.trans e4), E4, p4⟩)) pins s' u I ru
theorem cs_for (i : Nat) {n : Str} {f : S → D → R (Fl T S)} {rx : R (List D)} (s0 : S) (hi : CI g (.Name n p1) iter Γ rx) (hΓ : Wk Γ (γ s0)) (hb : ∀ s x, CB g ζ γ body ((γ s).set i (.d x)) (f s x)) (hp : PassesOwn (model g.X.prog g.X.w) g.X.A g.X.env g.X.xe) (hc : g.X.calm = true)
    (nd : g.X.N.Nodup) (hN : g.X.N[i]? = some n := by rfl) (hx : Loc g.X.env.scope n := by first | exact Or.inl rfl | exact Or.inr rfl) (hf : g.X.fn n = true ∨ g.X.env.scope.names.lookup n = some .local := by first | exact .inl rfl | exact .inr rfl)
    (hs : ∀ x, foldedSetIterable iter g.X.env x = pure x := by intro _; rfl) : CS g ζ γ (.For (.Name n p1) iter body [] pos) Γ (rx >>= fun xs => forD f xs s0) :=
  cs_forP hi s0 hΓ (fun s x => .inr ⟨_, cp_name i nd hN hx hf, hb s x⟩) hp hc hs
theorem cs_for2 (i j : Nat) {n m : Str} {kk : Nat} {p2 tp : Pos} {f : S → D → D → R (Fl T S)} {rx : R (List D)} (s0 : S) (hi : CI g (.Tuple [.Name n p1, .Name m p2] kk tp) iter Γ rx) (hΓ : Wk Γ (γ s0)) (hb : ∀ s x y, CB g ζ γ body (((γ s).set i (.d x)).set j (.d y)) (f s x y))
    (hp : PassesOwn (model g.X.prog g.X.w) g.X.A g.X.env g.X.xe) (hc : g.X.calm = true)
    (nd : g.X.N.Nodup) (hN : g.X.N[i]? = some n := by rfl) (hx : Loc g.X.env.scope n := by first | exact Or.inl rfl | exact Or.inr rfl) (hf : g.X.fn n = true ∨ g.X.env.scope.names.lookup n = some .local := by first | exact .inl rfl | exact .inr rfl)
    (hj : g.X.N[j]? = some m := by rfl) (hy : Loc g.X.env.scope m := by first | exact Or.inl rfl | exact Or.inr rfl) (hf2 : g.X.fn m = true ∨ g.X.env.scope.names.lookup m = some .local := by first | exact .inl rfl | exact .inr rfl)
    (s1 : (assignEach [.Name n p1, .Name m p2] g.X.env).map (·.2) = assign (.Name n p1) g.X.env :: (assignEach [.Name m p2] g.X.env).map (·.2) := by rfl) (s2 : (assignEach [.Name m p2] g.X.env).map (·.2) = assign (.Name m p2) g.X.env :: (assignEach [] g.X.env).map (·.2) := by rfl)
    (hn : (assignEach [.Name n p1, .Name m p2] g.X.env).length = 2 := by rfl) (hst : (assignEach [.Name n p1, .Name m p2] g.X.env).findIdx? (·.1) = none := by rfl)
    (hs : ∀ x, foldedSetIterable iter g.X.env x = pure x := by intro _; rfl) : CS g ζ γ (.For (.Tuple [.Name n p1, .Name m p2] kk tp) iter body [] pos) Γ (rx >>= fun xs => forD (fun s => D.two (f s)) xs s0) :=
  cs_forP hi s0 hΓ (fun s x => by
    by_cases h : ∃ a b, x = .tup [a, b]
    · obtain ⟨a, b, rfl⟩ := h
      exact .inr ⟨_, cp_tup2 i j hc nd hN hx hf hj hy hf2 s1 s2 hn hst, hb s a b⟩
    · left
      unfold D.two
      split
      · exact (h ⟨_, _, rfl⟩).elim
      · rfl) hp hc hs
theorem cs_for3 (i j k : Nat) {n m l : Str} {kk : Nat} {p2 p3 tp : Pos} {f : S → D → D → D → R (Fl T S)} {rx : R (List D)} (s0 : S) (hi : CI g (.Tuple [.Name n p1, .Name m p2, .Name l p3] kk tp) iter Γ rx) (hΓ : Wk Γ (γ s0)) (hb : ∀ s x y z, CB g ζ γ body ((((γ s).set i (.d x)).set j (.d y)).set k (.d z)) (f s x y z))
    (hp : PassesOwn (model g.X.prog g.X.w) g.X.A g.X.env g.X.xe) (hc : g.X.calm = true)
    (nd : g.X.N.Nodup) (hN : g.X.N[i]? = some n := by rfl) (hx : Loc g.X.env.scope n := by first | exact Or.inl rfl | exact Or.inr rfl) (hf : g.X.fn n = true ∨ g.X.env.scope.names.lookup n = some .local := by first | exact .inl rfl | exact .inr rfl)
    (hj : g.X.N[j]? = some m := by rfl) (hy : Loc g.X.env.scope m := by first | exact Or.inl rfl | exact Or.inr rfl) (hf2 : g.X.fn m = true ∨ g.X.env.scope.names.lookup m = some .local := by first | exact .inl rfl | exact .inr rfl)
    (hk : g.X.N[k]? = some l := by rfl) (hz : Loc g.X.env.scope l := by first | exact Or.inl rfl | exact Or.inr rfl) (hf3 : g.X.fn l = true ∨ g.X.env.scope.names.lookup l = some .local := by first | exact .inl rfl | exact .inr rfl)
    (s1 : (assignEach [.Name n p1, .Name m p2, .Name l p3] g.X.env).map (·.2) = assign (.Name n p1) g.X.env :: (assignEach [.Name m p2, .Name l p3] g.X.env).map (·.2) := by rfl) (s2 : (assignEach [.Name m p2, .Name l p3] g.X.env).map (·.2) = assign (.Name m p2) g.X.env :: (assignEach [.Name l p3] g.X.env).map (·.2) := by rfl)
    (s3 : (assignEach [.Name l p3] g.X.env).map (·.2) = assign (.Name l p3) g.X.env :: (assignEach [] g.X.env).map (·.2) := by rfl)
    (hn : (assignEach [.Name n p1, .Name m p2, .Name l p3] g.X.env).length = 3 := by rfl) (hst : (assignEach [.Name n p1, .Name m p2, .Name l p3] g.X.env).findIdx? (·.1) = none := by rfl)
    (hs : ∀ x, foldedSetIterable iter g.X.env x = pure x := by intro _; rfl) : CS g ζ γ (.For (.Tuple [.Name n p1, .Name m p2, .Name l p3] kk tp) iter body [] pos) Γ (rx >>= fun xs => forD (fun s => D.three (f s)) xs s0) :=
  cs_forP hi s0 hΓ (fun s x => by
    by_cases h : ∃ a b c, x = .tup [a, b, c]
    · obtain ⟨a, b, c, rfl⟩ := h
      exact .inr ⟨_, cp_tup3 i j k hc nd hN hx hf hj hy hf2 hk hz hf3 s1 s2 s3 hn hst, hb s a b c⟩
    · left
      unfold D.three
      split
      · exact (h ⟨_, _, _, rfl⟩).elim
      · rfl) hp hc hs
theorem cs_while (n : Nat) {rc : S → R Bool} {f : S → R (Fl T S)} (s0 : S) (hΓ : Wk Γ (γ s0)) (hc : ∀ s, CT g c (γ s) (rc s)) (hb : ∀ s, CB g ζ γ body (γ s) (f s)) (hp : PassesOwn (model g.X.prog g.X.w) g.X.A g.X.env g.X.xe) :
    CS g ζ γ (.While c body [] pos) Γ (whileD rc f n s0) := .mk fun F H σ Dn E p => by
  refine wS_of (ps_while hp (pt_w _ c) (pss_w _ body)) ?_
  refine ⟨fun m σ2 H2 => ∃ s F2, g.Env F2 H2 σ2 (γ s) ∧ PostS g ζ γ Dn F2 (whileD rc f m s), ⟨n, s0, F, E.weak hΓ, p⟩, ?_⟩
  rintro m σ2 H2 ⟨s, F2, E2, p2⟩
  cases m with
  | zero => exact (show False from p2).elim
  | succ m =>
    refine hc s F2 H2 σ2 _ E2 (p2.expr E2 fun b v F3 H3 g3 r3 E3 p3 => ?_)
    obtain rfl : v = b := r3
    cases v with
    | true =>
      refine iteT ⟨fun σ' H' => ∃ s F2, g.Env F2 H' σ' (γ s) ∧ PostS g ζ γ Dn F2 (whileD rc f m s), fun σ' H' h => ⟨m, Nat.lt_succ_self m, h⟩, ?_⟩
      have p4 : PostS g ζ γ Dn F3 (M.seq (f s) (whileD rc f m)) := p3
      exact hb s F3 H3 σ2 _ E3 (p4.seq fun s2 σ4 F4 H4 e4 E4 p5 => ⟨s2, F4, E4, p5⟩)
    | false => exact iteF (p3 σ2 F3 H3 (Ex.refl _) E3)
end
end DL
end
section
set_option Elab.async false
set_option linter.all false
set_option maxRecDepth 100000
set_option maxHeartbeats 2000000
set_option autoImplicit false
namespace DL
open PySem PySem.Spec PyProof.Rows L2
variable [TN]

/-! ## comprehensions -/
theorem wipe_at (σ : L2.St) (j : Nat) : ∀ vs : List Nat, (wipe σ vs)[j]? = if j ∈ vs then (if j < σ.length then some none else none) else σ[j]?
  | [] => by simp [wipe]
  | v :: vs => by
    unfold wipe
    by_cases h : v = j
    · subst h
      by_cases hl : v < (wipe σ vs).length
      · rw [List.getElem?_set_self hl, if_pos List.mem_cons_self, if_pos (by rw [wipe_length] at hl; exact hl)]
      · rw [List.getElem?_eq_none (by simpa using hl), if_pos List.mem_cons_self, if_neg (by rw [wipe_length] at hl; exact hl)]
    · rw [List.getElem?_set_ne h, wipe_at σ j vs]
      have q : (j ∈ v :: vs) ↔ j ∈ vs := by
        simp [Ne.symm h]
      by_cases hm : j ∈ vs
      · rw [if_pos hm, if_pos (q.mpr hm)]
      · rw [if_neg hm, if_neg (fun z => hm (q.mp z))]
theorem wipe_same {σ τ : L2.St} {vs : List Nat} (hl : σ.length = τ.length) (h : ∀ j, j ∉ vs → σ[j]? = τ[j]?) : wipe σ vs = wipe τ vs := by
  apply List.ext_getElem?
  intro j
  rw [wipe_at, wipe_at]
  by_cases hm : j ∈ vs
  · rw [if_pos hm, if_pos hm, hl]
  · rw [if_neg hm, if_neg hm, h j hm]
theorem wipe_set1 {σ : L2.St} {vs : List Nat} {i : Nat} {o : Option V} (hi : i ∈ vs) : wipe ((wipe σ vs).set i o) vs = wipe σ vs := by
  refine wipe_same (by rw [List.length_set, wipe_length]) fun j hj => ?_
  rw [List.getElem?_set_ne (fun z => hj (by rw [← z]; exact hi)), wipe_at, if_neg hj]
theorem wipe_set2 {σ : L2.St} {vs : List Nat} {i j : Nat} {o u : Option V} (hi : i ∈ vs) (hj : j ∈ vs) : wipe (((wipe σ vs).set i o).set j u) vs = wipe σ vs := by
  refine wipe_same (by rw [List.length_set, List.length_set, wipe_length]) fun k hk => ?_
  rw [List.getElem?_set_ne (fun z => hk (by rw [← z]; exact hj)), List.getElem?_set_ne (fun z => hk (by rw [← z]; exact hi)), wipe_at, if_neg hk]
/-- the slots of a block's own names forgotten -/
def wipeS (Γ : List Sl) : List Nat → List Sl
  | [] => Γ
  | v :: vs => (wipeS Γ vs).set v .no
section
variable {K : PySem.W.Frag} {C : Ctab} {B F0 F H : Hp} {σ : L2.St} {Γ : List Sl}
theorem EnvOk.set_no (E : EnvOk K C B F0 F H σ Γ) (i : Nat) (o : Option V) : EnvOk K C B F0 F H (σ.set i o) (Γ.set i .no) := by
  have no : ∀ {j : Nat} {s : Sl}, (Γ.set i .no)[j]? = some s → s.isOwn = true → i ≠ j ∧ Γ[j]? = some s := fun {j s} e ow => by
    by_cases q : i = j
    · subst q
      by_cases hl : i < Γ.length
      · rw [List.getElem?_set_self hl] at e
        cases e
        exact absurd (show false = true from ow) Bool.false_ne_true
      · rw [List.getElem?_eq_none (by simpa using hl)] at e
        cases e
    · rw [List.getElem?_set_ne q] at e
      exact ⟨q, e⟩
  refine ⟨E.toBas, by simp [E.len], fun j s e => ?_, fun j k s t a n e1 e2 o1 o2 h1 h2 => ?_⟩
  · by_cases q : i = j
    · subst q
      by_cases hl : i < Γ.length
      · rw [List.getElem?_set_self hl] at e
        cases e
        exact ⟨o, List.getElem?_set_self (by rw [E.len]; exact hl), trivial⟩
      · rw [List.getElem?_eq_none (by simpa using hl)] at e
        cases e
    · rw [List.getElem?_set_ne q] at e ⊢
      exact E.sl j s e
  · obtain ⟨q1, g1⟩ := no e1 o1
    obtain ⟨q2, g2⟩ := no e2 o2
    rw [List.getElem?_set_ne q1] at h1
    rw [List.getElem?_set_ne q2] at h2
    exact E.sep j k s t a n g1 g2 o1 o2 h1 h2
theorem EnvOk.wipe (E : EnvOk K C B F0 F H σ Γ) : ∀ vs : List Nat, EnvOk K C B F0 F H (L2.wipe σ vs) (wipeS Γ vs)
  | [] => E
  | v :: vs => (EnvOk.wipe E vs).set_no v none
end
/-- [e x for x in xs if t x]: nothing raises -/
def compR (t : D → R Bool) (e : D → R D) : List D → Option (List D)
  | [] => some []
  | x :: xs => match t x with
    | .ok b => if b = true then (match e x with
      | .ok y => (compR t e xs).map (y :: ·)
      | _ => none) else compR t e xs
    | _ => none
def compL (t : D → R Bool) (e : D → R D) (xs : List D) : Option (List D) := if xs.length ≤ lim then compR t e xs else none
/-- where a comprehension's block runs -/
def G.blk (g : G) (s : Shared) (H : Hp) (scope : Scope) (cenv : PySem.Env) (fp : List Addr) : G := ⟨g.X.blk s H scope cenv fp, g.C, fun _ _ _ _ => False, g.B, g.F0, LamX.takes0, g.b, g.gd, g.hT⟩
section
variable {g : G} {Γ : List Sl} {elt tg iter c : Expr} {ifs : List Expr} {scope : Scope} {pos p1 : Pos} {own : List (Str × Nat)}
/-- the element's, the tests', the target's reading in whatever block -/
def bE (g : G) (scope : Scope) (e : Expr) : TE := fun σ H Q => ∀ s H0 C cl fp, wE (g.blk s H0 scope (compEnvC scope cl C g.X.env) fp).X e σ H Q
def wTs (X : Cx) (ifs : List Expr) : TT := fun σ H Q => ∀ pins s, Inv X pins σ H s → wpAny (model X.prog X.w) X.A (forIn ifs true fun c r => if r = true then do let ok ← isTrue c X.env (eval c X.env); pure (ForInStep.yield ok) else pure (ForInStep.yield r)) (TP X pins σ Q) X.xe s
def bT (g : G) (scope : Scope) (ifs : List Expr) : TT := fun σ H Q => ∀ s H0 C cl fp, wTs (g.blk s H0 scope (compEnvC scope cl C g.X.env) fp).X ifs σ H Q
structure CTs (g : G) (ifs : List Expr) (Γ : List Sl) (r : R Bool)  : Prop where
  h : ∀ F H σ Q, g.Env F H σ Γ → Post g rB F H σ Q r → wTs g.X ifs σ H Q
instance (g : G) (ifs : List Expr) (Γ : List Sl) (r : R Bool)  : CoeFun (CTs g ifs Γ r) (fun _ => ∀ F H σ Q, g.Env F H σ Γ → Post g rB F H σ Q r → wTs g.X ifs σ H Q) := ⟨CTs.h⟩
theorem cts_nil : CTs g [] Γ (.ok true) := .mk fun F H σ Q E p pins s I => pts_nil.run pins s σ H Q I (p.here E.ef rfl)
theorem cts_one {r : R Bool} (h : CT g c Γ r) : CTs g [c] Γ r := .mk fun F H σ Q E p pins s I => (pts_one (pt_w _ c)).run pins s σ H Q I (h F H σ Q E p)
theorem blk_post {α β : Type} {ρ : Rep β α} {s : Shared} {H0 : Hp} {cenv : PySem.Env} {fp : List Addr} {F H : Hp} {σ : L2.St} {Q : β → Hp → Prop} {a : α} (h : ∀ b F' H', Gr F H F' H' → ρ.r H F' H' b a → Q b H') : Post (g.blk s H0 scope cenv fp) ρ F H σ Q (.ok a) := h
/-- the reading of a comprehension, the target one or more names: GT what the target does -/
theorem lc_dl {rx : R (List D)} {t : D → R Bool} {e : D → R D} {GT : TG} {ΓT : D → List Sl} {F H : Hp} {σ : L2.St} {Q : VK} (hi : CI g tg iter Γ rx) (E : g.Env F H σ Γ)
    (hT : ∀ x, (t x = .un) ∨ ∀ F2 H2 σ2 v (Q2 : L2.St → Hp → Prop), g.Env F2 H2 (wipe σ2 (own.map (·.2))) (wipeS Γ (own.map (·.2))) → Rp g.X.K g.C F2 v x → (∀ σ3, g.Env F2 H2 σ3 (ΓT x) → wipe σ3 (own.map (·.2)) = wipe σ2 (own.map (·.2)) → Q2 σ3 H2) → GT v (wipe σ2 (own.map (·.2))) H2 Q2)
    (ht : ∀ x s H0 C cl fp, CTs (g.blk s H0 scope (compEnvC scope cl C g.X.env) fp) ifs (ΓT x) (t x)) (he : ∀ x s H0 C cl fp, CE (g.blk s H0 scope (compEnvC scope cl C g.X.env) fp) elt (ΓT x) (e x))
    (p : Post g (rN g.X.K g.C) F H σ Q (rx >>= fun xs => .of (compL t e xs))) : tLc (wI g.X tg iter) GT (bT g scope ifs) (bE g scope elt) (own.map (·.2)) σ H Q := by
  refine hi F H σ _ E ?_
  cases rx with
  | un => exact p
  | ex c x => exact p
  | ok xs =>
    intro J F1 H1 g1 wk D0 hD
    have p0 : PostV (rN g.X.K g.C) F H Q (compL t e xs) := Post.ofV p
    unfold compL at p0
    split at p0
    case isFalse => exact p0.elim
    rename_i hlim
    cases q : compR t e xs with
    | none =>
      rw [q] at p0
      exact p0.elim
    | some out =>
      rw [q] at p0
      have hH0 : H D0 = none := g1.h.back hD
      refine ⟨fun k m H2 => m = xs.length - k ∧ ∃ F2 acc ds rest, Ex F1 F2 ∧ Gr F H F2 H2 ∧ F2 D0 = none ∧ H2 D0 = some (.lst acc) ∧ RpA g.X.K g.C F2 acc ds ∧ ds.length ≤ k ∧ compR t e (xs.drop k) = some rest ∧ out = ds ++ rest,
        ⟨xs.length, rfl, F1, [], [], out, Ex.refl _, g1.trans (Gr.own g1.fh hD), g1.fh.back hD, upd_same, .nil, Nat.le_refl _, by rw [List.drop_zero]; exact q, rfl⟩, ?_⟩
      rintro k m H2 ⟨rfl, F2, acc, ds, rest, x1, g2, f0, h0, ra, hl, hc, ho⟩
      obtain ⟨w1, w2⟩ := wk k F2 H2 x1 g2.fh
      cases qk : xs[k]? with
      | none =>
        have hk : xs.length ≤ k := List.getElem?_eq_none_iff.mp qk
        rw [List.drop_eq_nil_of_le hk] at hc
        cases hc
        rw [List.append_nil] at ho
        subst ho
        exact .inl ⟨w1 hk, p0 _ F2 H2 g2 ⟨D0, acc, rfl, hH0, f0, h0, ra⟩⟩
      | some x =>
        obtain ⟨hk, ex⟩ := List.getElem?_eq_some_iff.mp qk
        obtain ⟨go, y⟩ := w2 x qk
        rw [List.drop_eq_getElem_cons hk, ex] at hc
        refine .inr ⟨go, fun H2 => ∃ F2 acc ds rest, Ex F1 F2 ∧ Gr F H F2 H2 ∧ F2 D0 = none ∧ H2 D0 = some (.lst acc) ∧ RpA g.X.K g.C F2 acc ds ∧ ds.length ≤ k + 1 ∧ compR t e (xs.drop (k + 1)) = some rest ∧ out = ds ++ rest, fun H' n => ⟨xs.length - (k + 1), by omega, rfl, n⟩, fun v H3 hy => ?_⟩
        obtain ⟨F3, g3, r3⟩ := y v H3 hy
        have g03 : Gr F H F3 H3 := g2.trans g3
        have E3 : g.Env F3 H3 (wipe σ (own.map (·.2))) (wipeS Γ (own.map (·.2))) := (E.grow g03).wipe _
        have f3 : F3 D0 = none := g3.n _ _ h0 f0
        have h3 : H3 D0 = some (.lst acc) := g3.h.at h0
        unfold compR at hc
        rcases hT x with tu | hT
        · rw [tu] at hc
          cases hc
        refine hT F3 H3 σ v _ E3 r3 fun σ4 E4 ew => ⟨ew, fun s' H0 CC cl fp => ?_⟩
        cases qt : t x with
        | un =>
          rw [qt] at hc
          cases hc
        | ex c z =>
          rw [qt] at hc
          cases hc
        | ok b =>
          rw [qt] at hc
          refine ht x s' H0 CC cl fp F3 H3 σ4 _ E4 (by
            rw [qt]
            refine blk_post fun b' F5 H5 g5 rb => ?_
            obtain rfl : b' = b := rb
            have f5 : F5 D0 = none := g5.n _ _ h3 f3
            have h5 : H5 D0 = some (.lst acc) := g5.h.at h3
            cases b' with
            | false =>
              exact iteF ⟨F5, acc, ds, rest, x1.trans (g3.f.trans g5.f), g03.trans g5, f5, h5, ra.mono (g3.f.trans g5.f), by omega, hc, ho⟩
            | true =>
              refine iteT fun s6 H06 C6 cl6 fp6 => ?_
              have hc' : (match e x with
                | .ok y => (compR t e (xs.drop (k + 1))).map (y :: ·)
                | _ => none) = some rest := hc
              cases qe : e x with
              | un =>
                rw [qe] at hc'
                cases hc'
              | ex c z =>
                rw [qe] at hc'
                cases hc'
              | ok y =>
                rw [qe] at hc'
                cases qr : compR t e (xs.drop (k + 1)) with
                | none =>
                  rw [qr] at hc'
                  cases hc'
                | some rest' =>
                  rw [qr] at hc'
                  obtain rfl : y :: rest' = rest := Option.some.inj hc'
                  refine he x s6 H06 C6 cl6 fp6 F5 H5 σ4 _ (EnvOk.grow E4 g5) ?_
                  rw [qe]
                  refine blk_post fun u F7 H7 g7 ru => ?_
                  have f7 : F7 D0 = none := g7.n _ _ h5 f5
                  have h7 : H7 D0 = some (.lst acc) := g7.h.at h5
                  have gg : Gr F H F7 H7 := (g03.trans g5).trans g7
                  have xx : Ex F2 F7 := g3.f.trans (g5.f.trans g7.f)
                  refine ⟨acc, h7, ?_, F7, acc ++ [u], ds ++ [y], rest', x1.trans xx, ⟨gg.f, gg.h.write hH0, gg.fh.write f7, gg.n, gg.t.trans (TX.write h7 ⟨(fun _ z => nomatch z), (fun _ z => nomatch z)⟩)⟩, f7, upd_same, (ra.mono xx).append (.one ru), by simp; omega, rfl, by simp [ho]⟩
                  have l1 := ra.length
                  exact lim_lt (by omega))
theorem blkC_mem {N : List Str} {sc : Scope} (i : Nat) {n : Str} : i ∈ ([(n, i)] : List (Str × Nat)).map (·.2) := by simp
/-- [e for n in iter if ..] -/
theorem cn_comp (i : Nat) {n : Str} {rx : R (List D)} {t : D → R Bool} {e : D → R D} (hi : CI g (.Name n p1) iter Γ rx) (nd : g.X.N.Nodup) (hc : g.X.calm = true) (hb : blkC g.X.N g.X.env.scope scope [(n, i)] = true)
    (ht : ∀ x s H0 C cl fp, CTs (g.blk s H0 scope (compEnvC scope cl C g.X.env) fp) ifs ((Γ.set i .no).set i (.d x)) (t x)) (he : ∀ x s H0 C cl fp, CE (g.blk s H0 scope (compEnvC scope cl C g.X.env) fp) elt ((Γ.set i .no).set i (.d x)) (e x))
    (hg : ∀ (s : Shared) (H : Hp) (C : Addr) (cl : List (Str × Addr)) (fp : List Addr), PG (g.X.blk s H scope (compEnvC scope cl C g.X.env) fp) (.Name n p1) (gName i))
    (hs : ∀ x, foldedSetIterable iter g.X.env x = pure x := by intro _; rfl) :
    CN g (.ListComp elt [⟨.Name n p1, iter, ifs, 0⟩] scope pos) Γ (rx >>= fun xs => .of (compL t e xs)) := .mk fun F H σ Q E p =>
  wE_of (pe_lc (te := bE g scope elt) (tt := bT g scope ifs) hc nd (pi_w _ _ _) (blkOk_by hb) hg (fun s H C cl fp => ⟨fun pins s' σ H' Q I h => h s H C cl fp pins s' I⟩) (fun s H C cl fp => ⟨fun pins s' σ H' Q I h => h s H C cl fp pins s' I⟩) hs)
    (lc_dl (GT := gName i) (own := [(n, i)]) (ΓT := fun x => (Γ.set i .no).set i (.d x)) hi E (fun x => .inr fun F2 H2 σ2 v Q2 E2 r k => k _ (EnvOk.set_d E2 i r) (wipe_set1 (by simp))) ht he p)
theorem cn_comp2 (i j : Nat) {n m : Str} {kk : Nat} {p2 tp : Pos} {rx : R (List D)} {t : D → D → R Bool} {e : D → D → R D} (hi : CI g (.Tuple [.Name n p1, .Name m p2] kk tp) iter Γ rx) (nd : g.X.N.Nodup) (hc : g.X.calm = true) (hb : blkC g.X.N g.X.env.scope scope [(n, i), (m, j)] = true)
    (ht : ∀ x y s H0 C cl fp, CTs (g.blk s H0 scope (compEnvC scope cl C g.X.env) fp) ifs ((((Γ.set j .no).set i .no).set i (.d x)).set j (.d y)) (t x y)) (he : ∀ x y s H0 C cl fp, CE (g.blk s H0 scope (compEnvC scope cl C g.X.env) fp) elt ((((Γ.set j .no).set i .no).set i (.d x)).set j (.d y)) (e x y))
    (hg : ∀ (s : Shared) (H : Hp) (C : Addr) (cl : List (Str × Addr)) (fp : List Addr), PG (g.X.blk s H scope (compEnvC scope cl C g.X.env) fp) (.Tuple [.Name n p1, .Name m p2] kk tp) (gTup g.X.K 2 (gCons (gName i) (gCons (gName j) gNil))))
    (hs : ∀ x, foldedSetIterable iter g.X.env x = pure x := by intro _; rfl) :
    CN g (.ListComp elt [⟨.Tuple [.Name n p1, .Name m p2] kk tp, iter, ifs, 0⟩] scope pos) Γ (rx >>= fun xs => .of (compL (D.two t) (D.two e) xs)) := .mk fun F H σ Q E p => by
  refine wE_of (pe_lc (te := bE g scope elt) (tt := bT g scope ifs) hc nd (pi_w _ _ _) (blkOk_by hb) hg (fun s H C cl fp => ⟨fun pins s' σ H' Q I h => h s H C cl fp pins s' I⟩) (fun s H C cl fp => ⟨fun pins s' σ H' Q I h => h s H C cl fp pins s' I⟩) hs) ?_
  refine lc_dl (GT := gTup g.X.K 2 (gCons (gName i) (gCons (gName j) gNil))) (own := [(n, i), (m, j)]) (ΓT := fun z => match z with | .tup [x, y] => (((Γ.set j .no).set i .no).set i (.d x)).set j (.d y) | _ => Γ) hi E (fun z => ?_) (fun z s H0 C cl fp => ?_) (fun z s H0 C cl fp => ?_) p
  · by_cases h : ∃ a b, z = .tup [a, b]
    · obtain ⟨a, b, rfl⟩ := h
      refine .inr fun F2 H2 σ2 v Q2 E2 r k => ?_
      cases r with
      | tup h1 a1 =>
        cases a1 with
        | cons r1 t1 =>
          cases t1 with
          | cons r2 t2 =>
            cases t2
            exact ⟨_, _, rfl, ex_t E2.ef h1, rfl, _, _, rfl, _, _, rfl, rfl, k _ ((EnvOk.set_d E2 i r1).set_d j r2) (wipe_set2 (by simp) (by simp))⟩
    · left
      unfold D.two
      split
      · exact (h ⟨_, _, rfl⟩).elim
      · rfl
  · by_cases h : ∃ a b, z = .tup [a, b]
    · obtain ⟨a, b, rfl⟩ := h
      exact ht a b s H0 C cl fp
    · have q : D.two t z = .un := by
        unfold D.two
        split
        · exact (h ⟨_, _, rfl⟩).elim
        · rfl
      rw [q]
      exact .mk fun F H σ Q E p => (show False from p).elim
  · by_cases h : ∃ a b, z = .tup [a, b]
    · obtain ⟨a, b, rfl⟩ := h
      exact he a b s H0 C cl fp
    · have q : D.two e z = .un := by
        unfold D.two
        split
        · exact (h ⟨_, _, rfl⟩).elim
        · rfl
      rw [q]
      exact .mk fun F H σ Q E p => (show False from p).elim
end

/-! ## a def by its body -/
def fin : R (Fl D Unit) → R D
  | .ok (.nx _) => .ok .non
  | .ok (.rt d) => .ok d
  | .ex c x => .ex c x
  | .un => .un
@[simp] theorem fin_nx (s : Unit) : fin (.ok (.nx s)) = .ok .non := rfl
@[simp] theorem fin_rt (d : D) : fin (.ok (.rt d)) = .ok d := rfl
@[simp] theorem fin_ex (c : Str) (d : D) : fin (.ex c d) = .ex c d := rfl
@[simp] theorem fin_un : fin .un = .un := rfl
theorem Wk.no {a : List Sl} {n : Nat} (h : a.length = n) : Wk a (List.replicate n .no) := by
  induction a generalizing n with
  | nil =>
    subst h
    exact .nil
  | cons s a ih =>
    subst h
    exact .drop (ih rfl)
section
variable {P : Program} {w : World} {K : PySem.W.Frag} {mg : Str → Option Value} {base : Heap} {bb : Bool}
/-- the def at f has the code cd -/
def CodeAt (K : PySem.W.Frag) (f : Addr) (cd : Value) : Prop := ∃ oc od osl fd, K.lookup f = some ⟨oc, od, .func fd, osl⟩ ∧ fd.code = cd ∧ ∃ q, PySem.W.codeIn K cd q = true
/-- where a def's body runs -/
abbrev gOf (P : Program) (w : World) (K : PySem.W.Frag) (mg : Str → Option Value) (base : Heap) (C : Ctab) (N : List Str) (qual : Str) (scope : Scope) (f : Addr) (cd : Value) (A : Around) (outer : List PySem.Env) (s : Shared) (H : Hp) (E : XK) (F0 : Hp) {bb : Bool} (gd : bb = true → A.guards = some []) (hT : LamX.Tabs TN.T H) : G :=
  ⟨cxOf (L2.CX P w) P w K mg base N qual scope f cd A outer s H E, C, fun cl d _ H' => E cl d H', H, F0, takes_of rfl rfl rfl rfl, bb, gd, hT⟩
theorem start_env {C : Ctab} {F H : Hp} {N : List Str} {vs : List V} {ds : List D} (e : Ex F H) (r : RpA K C F vs ds) (hl : vs.length ≤ N.length) : EnvOk K C H F F H (start N vs) (ds.map Sl.d ++ List.replicate (N.length - ds.length) Sl.no) := by
  have lv := r.length
  refine ⟨⟨Ex.refl _, Ex.refl _, e, fun _ _ _ h => h, TX.refl _⟩, by simp [L2.start, lv], fun i s h => ?_, fun i j s t a n e1 e2 o1 o2 h1 h2 => ?_⟩
  · by_cases hi : i < ds.length
    · rw [List.getElem?_append_left (by simpa using hi), List.getElem?_map] at h
      cases q : ds[i]? with
      | none =>
        rw [q] at h
        cases h
      | some d =>
        rw [q] at h
        cases h
        obtain ⟨v, h1, h2⟩ := r.get q
        refine ⟨some v, ?_, v, rfl, h2⟩
        show (vs.map some ++ _)[i]? = _
        rw [List.getElem?_append_left (by rw [List.length_map, lv]; exact hi), List.getElem?_map, h1]
        rfl
    · rw [List.getElem?_append_right (by simpa using hi), List.length_map] at h
      have h2 : i - ds.length < N.length - ds.length := by
        have := (List.getElem?_eq_some_iff.mp h).1
        simpa using this
      rw [List.getElem?_replicate, if_pos h2] at h
      cases h
      refine ⟨none, ?_, trivial⟩
      show (vs.map some ++ _)[i]? = _
      rw [List.getElem?_append_right (by rw [List.length_map, lv]; omega), List.length_map, lv, List.getElem?_replicate, if_pos h2]
  · have no : ∀ {k : Nat} {u : Sl}, (ds.map Sl.d ++ List.replicate (N.length - ds.length) Sl.no)[k]? = some u → u.isOwn = true → False := fun {k u} hk hu => by
      have hm := List.mem_of_getElem? hk
      rcases List.mem_append.mp hm with z | z
      · obtain ⟨d, _, rfl⟩ := List.mem_map.mp z
        exact absurd (show false = true from hu) Bool.false_ne_true
      · obtain ⟨_, rfl⟩ := List.mem_replicate.mp z
        exact absurd (show false = true from hu) Bool.false_ne_true
    exact no e1 o1
theorem fn_dl {x qual : Str} {params : Arguments} {bd : List Stmt} {scope : Scope} {dvs : List V} {kws : List (Str × V)} {f : Addr} {fd : FuncData} {N ps : List Str} {k : Nat} {C : Ctab} {m : List D → R D} (Fn : FunD K x qual params bd scope dvs kws f fd) (S : FnScope N ps scope) (hN : ps.length ≤ N.length) (hm : ∀ ds, ds.length ≠ ps.length → m ds = .un)
    (body : ∀ (cdv : Value) (A : Around) (outer : List PySem.Env) (s : Shared) (H : Hp) (E : XK) (F0 : Hp) (gd : bb = true → A.guards = some []) (hcd : CodeAt K f cdv) (hT : LamX.Tabs TN.T H), Room k (gOf P w K mg base C N qual scope f cdv A outer s H E F0 gd hT).X.A → ∀ ds : List D, ds.length = ps.length →
      ∃ r, m ds = fin r ∧ CB (gOf P w K mg base C N qual scope f cdv A outer s H E F0 gd hT) (ζD K C) (fun _ : Unit => List.replicate N.length Sl.no) bd (ds.map Sl.d ++ List.replicate (N.length - ds.length) Sl.no) r) :
    FnG P w K mg base (L2.CX P w) bb (k + 1) f fd ps (spD K C m) := by
  have len : ∀ vs H Q E, spD K C m vs H Q E → vs.length = ps.length := fun vs H Q E h => by
    obtain ⟨F, ds, e, _, r, p⟩ := h
    rw [r.length]
    by_cases hl : ds.length = ps.length
    · exact hl
    · rw [hm ds hl] at p
      exact p.elim
  obtain ⟨oc, od, dV, kV, doc, pm, an, cdv, ct, osl, rfl, lk, hcd, _, _⟩ := Fn.ex
  refine fnG_of lk hcd S len fun A outer s H vs Q E gd hr h => ?_
  have hl := len _ _ _ _ h
  obtain ⟨F, ds, e, hT, r, p⟩ := h
  have hd : ds.length = ps.length := by
    rw [← r.length]
    exact hl
  obtain ⟨rr, em, hb⟩ := body cdv A outer s H E F gd ⟨_, _, _, _, lk, rfl, _, hcd⟩ hT hr ds hd
  refine ⟨_, pss_w _ _, hb F H _ _ (start_env e r (by omega)) ?_⟩
  rw [em] at p
  have fin0 : ∀ {F' H' : Hp}, Bas H F F' H' → Gr F H F' H' := fun b => ⟨b.e0, b.eb, b.ef, fun a o h1 h2 => b.fr a o h1 h2, b.tb⟩
  cases rr with
  | ok fl =>
    cases fl with
    | nx u => exact fun σ' F' H' x E' => p _ F' H' (fin0 E'.toBas) .non
    | rt d => exact fun v F' H' b rv => p v F' H' (fin0 b) rv
  | ex c z => exact fun cl dx σ' F' H' b er => p cl dx F' H' (fin0 b) er
  | un => exact p
/-- nothing is promised: a def at depth nought -/
theorem fn_un {f : Addr} {fd : FuncData} {ps : List Str} {k : Nat} {C : Ctab} {m : List D → R D} (h : ∀ ds, m ds = .un) : FnG P w K mg base (L2.CX P w) bb k f fd ps (spD K C m) :=
  ⟨fun vs H Q E ⟨F, ds, _, _, _, p⟩ => by
    rw [h ds] at p
    exact p.elim, fun A outer s H args us vs Q E _ _ _ _ _ ⟨F, ds, _, _, _, p⟩ => by
    rw [h ds] at p
    exact p.elim⟩
def m1 (m : D → R D) : List D → R D
  | [a] => m a
  | _ => .un
def m2 (m : D → D → R D) : List D → R D
  | [a, b] => m a b
  | _ => .un
def m3 (m : D → D → D → R D) : List D → R D
  | [a, b, c] => m a b c
  | _ => .un
def m4 (m : D → D → D → D → R D) : List D → R D
  | [a, b, c, d] => m a b c d
  | _ => .un
def m5 (m : D → D → D → D → D → R D) : List D → R D
  | [a, b, c, d, e] => m a b c d e
  | _ => .un
def m6 (m : D → D → D → D → D → D → R D) : List D → R D
  | [a, b, c, d, e, f] => m a b c d e f
  | _ => .un
section
variable {x qual : Str} {params : Arguments} {bd : List Stmt} {scope : Scope} {dvs : List V} {kws : List (Str × V)} {f : Addr} {fd : FuncData} {N : List Str} {a1 a2 a3 a4 a5 a6 : Str} {k : Nat} {C : Ctab}
theorem fn1 {m : D → R D} {mb : D → R (Fl D Unit)} (em : ∀ a, m a = fin (mb a)) (Fn : FunD K x qual params bd scope dvs kws f fd) (S : FnScope N [a1] scope) (hN : ([a1] : List Str).length ≤ N.length)
    (body : ∀ (cdv : Value) (A : Around) (outer : List PySem.Env) (s : Shared) (H : Hp) (E : XK) (F0 : Hp) (gd : bb = true → A.guards = some []) (hcd : CodeAt K f cdv) (hT : LamX.Tabs TN.T H), Room k (gOf P w K mg base C N qual scope f cdv A outer s H E F0 gd hT).X.A → ∀ a : D,
      CB (gOf P w K mg base C N qual scope f cdv A outer s H E F0 gd hT) (ζD K C) (fun _ : Unit => List.replicate N.length Sl.no) bd ([Sl.d a] ++ List.replicate (N.length - 1) Sl.no) (mb a)) :
    FnG P w K mg base (L2.CX P w) bb (k + 1) f fd [a1] (spD K C (m1 m)) := fn_dl Fn S hN (fun ds h => match ds, h with
      | [], _ => rfl
      | [_], h => absurd rfl h
      | _ :: _ :: _, _ => rfl) fun cdv A outer s H E F0 gd hcd hT hr ds hl => match ds, hl with
      | [a], _ => ⟨_, em a, body cdv A outer s H E F0 gd hcd hT hr a⟩
theorem fn2 {m : D → D → R D} {mb : D → D → R (Fl D Unit)} (em : ∀ a b, m a b = fin (mb a b)) (Fn : FunD K x qual params bd scope dvs kws f fd) (S : FnScope N [a1, a2] scope) (hN : ([a1, a2] : List Str).length ≤ N.length)
    (body : ∀ (cdv : Value) (A : Around) (outer : List PySem.Env) (s : Shared) (H : Hp) (E : XK) (F0 : Hp) (gd : bb = true → A.guards = some []) (hcd : CodeAt K f cdv) (hT : LamX.Tabs TN.T H), Room k (gOf P w K mg base C N qual scope f cdv A outer s H E F0 gd hT).X.A → ∀ a b : D,
      CB (gOf P w K mg base C N qual scope f cdv A outer s H E F0 gd hT) (ζD K C) (fun _ : Unit => List.replicate N.length Sl.no) bd ([Sl.d a, Sl.d b] ++ List.replicate (N.length - 2) Sl.no) (mb a b)) :
    FnG P w K mg base (L2.CX P w) bb (k + 1) f fd [a1, a2] (spD K C (m2 m)) := fn_dl Fn S hN (fun ds h => match ds, h with
      | [], _ => rfl
      | [_], _ => rfl
      | [_, _], h => absurd rfl h
      | _ :: _ :: _ :: _, _ => rfl) fun cdv A outer s H E F0 gd hcd hT hr ds hl => match ds, hl with
      | [a, b], _ => ⟨_, em a b, body cdv A outer s H E F0 gd hcd hT hr a b⟩
theorem fn3 {m : D → D → D → R D} {mb : D → D → D → R (Fl D Unit)} (em : ∀ a b c, m a b c = fin (mb a b c)) (Fn : FunD K x qual params bd scope dvs kws f fd) (S : FnScope N [a1, a2, a3] scope) (hN : ([a1, a2, a3] : List Str).length ≤ N.length)
    (body : ∀ (cdv : Value) (A : Around) (outer : List PySem.Env) (s : Shared) (H : Hp) (E : XK) (F0 : Hp) (gd : bb = true → A.guards = some []) (hcd : CodeAt K f cdv) (hT : LamX.Tabs TN.T H), Room k (gOf P w K mg base C N qual scope f cdv A outer s H E F0 gd hT).X.A → ∀ a b c : D,
      CB (gOf P w K mg base C N qual scope f cdv A outer s H E F0 gd hT) (ζD K C) (fun _ : Unit => List.replicate N.length Sl.no) bd ([Sl.d a, Sl.d b, Sl.d c] ++ List.replicate (N.length - 3) Sl.no) (mb a b c)) :
    FnG P w K mg base (L2.CX P w) bb (k + 1) f fd [a1, a2, a3] (spD K C (m3 m)) := fn_dl Fn S hN (fun ds h => match ds, h with
      | [], _ => rfl
      | [_], _ => rfl
      | [_, _], _ => rfl
      | [_, _, _], h => absurd rfl h
      | _ :: _ :: _ :: _ :: _, _ => rfl) fun cdv A outer s H E F0 gd hcd hT hr ds hl => match ds, hl with
      | [a, b, c], _ => ⟨_, em a b c, body cdv A outer s H E F0 gd hcd hT hr a b c⟩
theorem fn4 {m : D → D → D → D → R D} {mb : D → D → D → D → R (Fl D Unit)} (em : ∀ a b c d, m a b c d = fin (mb a b c d)) (Fn : FunD K x qual params bd scope dvs kws f fd) (S : FnScope N [a1, a2, a3, a4] scope) (hN : ([a1, a2, a3, a4] : List Str).length ≤ N.length)
    (body : ∀ (cdv : Value) (A : Around) (outer : List PySem.Env) (s : Shared) (H : Hp) (E : XK) (F0 : Hp) (gd : bb = true → A.guards = some []) (hcd : CodeAt K f cdv) (hT : LamX.Tabs TN.T H), Room k (gOf P w K mg base C N qual scope f cdv A outer s H E F0 gd hT).X.A → ∀ a b c d : D,
      CB (gOf P w K mg base C N qual scope f cdv A outer s H E F0 gd hT) (ζD K C) (fun _ : Unit => List.replicate N.length Sl.no) bd ([Sl.d a, Sl.d b, Sl.d c, Sl.d d] ++ List.replicate (N.length - 4) Sl.no) (mb a b c d)) :
    FnG P w K mg base (L2.CX P w) bb (k + 1) f fd [a1, a2, a3, a4] (spD K C (m4 m)) := fn_dl Fn S hN (fun ds h => match ds, h with
      | [], _ => rfl
      | [_], _ => rfl
      | [_, _], _ => rfl
      | [_, _, _], _ => rfl
      | [_, _, _, _], h => absurd rfl h
      | _ :: _ :: _ :: _ :: _ :: _, _ => rfl) fun cdv A outer s H E F0 gd hcd hT hr ds hl => match ds, hl with
      | [a, b, c, d], _ => ⟨_, em a b c d, body cdv A outer s H E F0 gd hcd hT hr a b c d⟩
end
end
end DL
end
section
set_option Elab.async false
set_option linter.all false
set_option maxRecDepth 100000
set_option maxHeartbeats 2000000
set_option autoImplicit false
namespace DL
open PySem PySem.Spec PyProof.Rows L2
variable [TN]

section
variable {g : G} {Γ : List Sl} {e a b c : Expr} {pos p1 : Pos}
/-! ## and, or, not, if as values -/
theorem ce_and {rest : List Expr} {r r2 : R D} (h : CE g a Γ r) (h2 : CE g (.BoolOp .And (b :: rest) pos) Γ r2) : CE g (.BoolOp .And (a :: b :: rest) pos) Γ (r >>= fun x => R.of x.asB >>= fun k => if k = true then r2 else .ok (.bl false)) := .mk fun F H σ Q E p =>
  wE_of (pe_and (pe_w _ a) (pe_w _ _)) (h F H σ _ E (p.seq fun x v F1 H1 g1 r1 p1 => by
    cases x <;> try (exact (show False from p1).elim)
    rename_i k
    cases r1
    refine ⟨k, rfl, ?_⟩
    cases k with
    | true => exact h2 F1 H1 σ Q (E.grow g1) p1
    | false => exact p1.here g1.fh (.bl false)))
theorem ce_or {rest : List Expr} {r r2 : R D} (h : CE g a Γ r) (h2 : CE g (.BoolOp .Or (b :: rest) pos) Γ r2) : CE g (.BoolOp .Or (a :: b :: rest) pos) Γ (r >>= fun x => R.of x.asB >>= fun k => if k = true then .ok (.bl true) else r2) := .mk fun F H σ Q E p =>
  wE_of (pe_or (pe_w _ a) (pe_w _ _)) (h F H σ _ E (p.seq fun x v F1 H1 g1 r1 p1 => by
    cases x <;> try (exact (show False from p1).elim)
    rename_i k
    cases r1
    refine ⟨k, rfl, ?_⟩
    cases k with
    | true => exact p1.here g1.fh (.bl true)
    | false => exact h2 F1 H1 σ Q (E.grow g1) p1))
theorem ce_not {r : R D} (h : CE g a Γ r) : CE g (.UnaryOp .Not a pos) Γ (r >>= fun x => R.of x.asB >>= fun k => .ok (.bl (!k))) := .mk fun F H σ Q E p =>
  wE_of (pe_not (pe_w _ a)) (h F H σ _ E (p.seq fun x v F1 H1 g1 r1 p1 => by
    cases x <;> try (exact (show False from p1).elim)
    rename_i k
    cases r1
    exact ⟨k, rfl, p1.here g1.fh (.bl _)⟩))
theorem cg_if {α : Type} {ρ : Rep V α} {rc : R Bool} {ra rb : R α} (hc : CT g c Γ rc) (ha : CG g ρ a Γ ra) (hb : CG g ρ b Γ rb) : CG g ρ (.IfExp c a b pos) Γ (rc >>= fun k => if k = true then ra else rb) := .mk fun F H σ Q E p =>
  wE_of (pe_ifExp (pt_w _ c) (pe_w _ a) (pe_w _ b)) (hc F H σ _ E (p.seq fun x v F1 H1 g1 r1 p1 => by
    obtain rfl : v = x := r1
    cases v with
    | true => exact ha F1 H1 σ Q (E.grow g1) p1
    | false => exact hb F1 H1 σ Q (E.grow g1) p1))
/-- a < b <= c, values that are True or False -/
theorem ce_chain {op op' : CmpOp} {h h' : D → D → Option D} {ra rb rc : R D} (ho : OpD g.X (compareOp op) (rD g.X.K g.C) (rD g.X.K g.C) (rD g.X.K g.C) h) (ho' : OpD g.X (compareOp op') (rD g.X.K g.C) (rD g.X.K g.C) (rD g.X.K g.C) h') (ha : CE g a Γ ra) (hb : CE g b Γ rb) (hc : CE g c Γ rc)
    (hm : lastMarks [op, op'] [b, c] = false := by with_unfolding_all rfl) : CE g (.Compare a [op, op'] [b, c] pos) Γ (ra >>= fun x => rb >>= fun y => R.of (h x y) >>= fun z => R.of z.asB >>= fun k => if k = true then (rc >>= fun w => R.of (h' y w)) else .ok (.bl false)) := .mk fun F H σ Q E p => by
  obtain ⟨r, h1, h2⟩ := ho
  obtain ⟨r', h1', h2'⟩ := ho'
  refine wE_of (pe_chain h1 h1' (pe_w _ a) (pe_w _ b) (pe_w _ c) hm) ?_
  refine ha F H σ _ E (p.seq fun x v F1 H1 g1 r1 p1 => hb F1 H1 σ _ (E.grow g1) (p1.seq fun y u F2 H2 g2 r2 p2 => h2 F2 H2 H1 H1 v u x y _ g2.fh (Rp.mono g2.f r1) r2 ?_))
  cases q : h x y with
  | none =>
    rw [q] at p2
    exact p2
  | some z =>
    rw [q] at p2
    intro w F3 H3 g3 r3
    cases z <;> try (exact (show False from p2).elim)
    rename_i k
    cases r3
    refine ⟨k, rfl, ?_⟩
    have p3 : Post g (rD g.X.K g.C) F2 H2 σ Q (if k = true then (rc >>= fun w => R.of (h' y w)) else .ok (.bl false)) := p2
    cases k with
    | true =>
      refine iteT (hc F3 H3 σ _ (((E.grow g1).grow g2).grow g3) ((p3.mono g3).seq fun w wv F4 H4 g4 r4 p4 => h2' F4 H4 H3 H3 u wv y w Q g4.fh ((Rp.mono g3.f r2).mono g4.f) r4 p4.ofV))
    | false => exact iteF ((p3.mono g3).here g3.fh (.bl false))

/-! ## a call of a built-in with one argument -/
def CallD (X : Cx) {α γ : Type} (f : Value) (ρ1 : Rep V α) (ρ : Rep V γ) (h : α → Option γ) : Prop :=
  ∃ r : List V → Hp → VK → Prop, CallR X f r ∧ ∀ (F H H0 : Hp) (x : V) (dx : α) (Q : VK), Ex F H → ρ1.r H0 F H x dx → PostV ρ F H Q (h dx) → r [x] H Q
section
variable {α γ : Type} {ρ1 : Rep V α} {ρ : Rep V γ} {h : α → Option γ} {r : R α} {x : Str} {id : String}
theorem cg_callB (ho : CallD g.X (.builtin id) ρ1 ρ h) (ha : CG g ρ1 a Γ r) (hm : g.X.mg x = none) (hv : bootBuiltins x = some (.builtin id)) (hg : Gl g.X x := by rfl) (hn : x ≠ "__name__" := by decide) (hdb : (x == ("__debug__" : Str)) = false := by decide)
    (he : starEach [a] g.X.env = [(false, eval a g.X.env)] := by rfl) : CG g ρ (.Call (.Name x p1) [a] [] pos) Γ (r >>= fun v => .of (h v)) := .mk fun F H σ Q E p => by
  obtain ⟨rr, h1, h2⟩ := ho
  exact wE_of (pe_callB h1 hg hm hv (pa_cons (pe_w _ a) pa_nil he) hn hdb (by rw [he]; rfl) (by rfl)) (ha F H σ _ E (p.seq fun v u F1 H1 g1 r1 p1 => h2 F1 H1 _ u v Q g1.fh r1 p1.ofV))
theorem cg_callT (ho : CallD g.X (.type id) ρ1 ρ h) (ha : CG g ρ1 a Γ r) (hm : g.X.mg x = none) (hv : bootBuiltins x = some (.type id)) (hg : Gl g.X x := by rfl) (hn : x ≠ "__name__" := by decide) (hdb : (x == ("__debug__" : Str)) = false := by decide)
    (he : starEach [a] g.X.env = [(false, eval a g.X.env)] := by rfl) : CG g ρ (.Call (.Name x p1) [a] [] pos) Γ (r >>= fun v => .of (h v)) := .mk fun F H σ Q E p => by
  obtain ⟨rr, h1, h2⟩ := ho
  exact wE_of (pe_callTy h1 hg hm hv (pa_cons (pe_w _ a) pa_nil he) hn hdb (by rw [he]; rfl) (by rfl)) (ha F H σ _ E (p.seq fun v u F1 H1 g1 r1 p1 => h2 F1 H1 _ u v Q g1.fh r1 p1.ofV))
end
end

section
variable {X : Cx} {C : Ctab}
def D.len : D → Option D
  | .str x => if x.length ≤ lim then some (.int (x.length : Nat)) else none
  | .tup l => some (.int (l.length : Nat))
  | .lst l => some (.int (l.length : Nat))
  | _ => none
theorem cd_len : CallD X (.builtin "len") (rR X.K C) (rD X.K C) D.len := by
  refine ⟨_, call_len, fun F H H0 x dx Q e r1 p => ?_⟩
  cases dx <;> try (exact (show False from p).elim)
  · rename_i z
    unfold D.len at p
    dsimp only at p
    split at p
    · rename_i hl
      obtain rfl := str_of r1
      exact ⟨_, _, rfl, ⟨lim_line hl, rfl⟩, fin_here p e (.int _)⟩
    · exact (show False from p).elim
  · rename_i l
    cases r1 with
    | tup h1 a1 =>
      refine ⟨_, _, rfl, .inr ⟨_, h1, rfl⟩, ?_⟩
      rw [a1.length]
      exact fin_here p e (.int _)
  · rename_i l
    cases r1 with
    | lst h1 a1 =>
      refine ⟨_, _, rfl, .inl ⟨_, SqL.of h1, rfl⟩, ?_⟩
      rw [a1.length]
      exact fin_here p e (.int _)
/-- tuple(a list); tuple(data) -/
theorem cd_tupleL : CallD X (.type "tuple") (rL X.K C) (rD X.K C) (fun xs => some (.tup xs)) := by
  refine ⟨_, call_tuple_of, fun F H H0 x dx Q e r1 p => ?_⟩
  obtain ⟨a, vs, rfl, h1, a1⟩ := r1
  refine ⟨a, vs, rfl, .inl ⟨h1, fun l hl => ?_⟩⟩
  have gr : Gr F H (upd F l (.tup vs)) (upd H l (.tup vs)) := Gr.alloc e hl
  exact p _ _ _ gr (.tup (SqT.of upd_same) (a1.mono gr.f))
def D.tuple : D → Option D
  | .tup l => some (.tup l)
  | .lst l => some (.tup l)
  | _ => none
theorem cd_tuple : CallD X (.type "tuple") (rD X.K C) (rD X.K C) D.tuple := by
  refine ⟨_, call_tuple_of, fun F H H0 x dx Q e r1 p => ?_⟩
  cases dx <;> try (exact (show False from p).elim)
  · cases r1 with
    | tup h1 a1 => exact ⟨_, _, rfl, .inr ⟨ex_t e h1, fin_here p e (.tup h1 a1)⟩⟩
  · cases r1 with
    | lst h1 a1 =>
      refine ⟨_, _, rfl, .inl ⟨SqL.of (e.at h1), fun l hl => ?_⟩⟩
      rename_i vs
      have gr : Gr F H (upd F l (.tup vs)) (upd H l (.tup vs)) := Gr.alloc e hl
      exact p _ _ _ gr (.tup (SqT.of upd_same) (a1.mono gr.f))
/-- list(a list); list(a tuple) -/
theorem cd_listL : CallD X (.type "list") (rL X.K C) (rN X.K C) (fun xs => some xs) := by
  refine ⟨_, call_list_of, fun F H H0 x dx Q e r1 p => ?_⟩
  obtain ⟨a, vs, rfl, h1, a1⟩ := r1
  exact ⟨a, vs, rfl, .inl h1, fun l hl => p _ _ _ (Gr.own e hl) ⟨l, _, rfl, hl, e.back hl, upd_same, a1⟩⟩
def D.listOf : D → Option (List D)
  | .tup l => some l
  | .lst l => some l
  | _ => none
theorem cd_list : CallD X (.type "list") (rD X.K C) (rN X.K C) D.listOf := by
  refine ⟨_, call_list_of, fun F H H0 x dx Q e r1 p => ?_⟩
  cases dx <;> try (exact (show False from p).elim)
  · cases r1 with
    | tup h1 a1 => exact ⟨_, _, rfl, .inr (ex_t e h1), fun l hl => p _ _ _ (Gr.own e hl) ⟨l, _, rfl, hl, e.back hl, upd_same, a1⟩⟩
  · cases r1 with
    | lst h1 a1 => exact ⟨_, _, rfl, .inl (SqL.of (e.at h1)), fun l hl => p _ _ _ (Gr.own e hl) ⟨l, _, rfl, hl, e.back hl, upd_same, a1⟩⟩
/-- lists of one kind alone -/
def intsD : List D → Option (List Int)
  | [] => some []
  | .int i :: l => (intsD l).map (i :: ·)
  | _ :: _ => none
theorem ints_of : ∀ {l : List D} {ns : List Int}, intsD l = some ns → l = ns.map D.int
  | [], ns, h => by
    cases h
    rfl
  | x :: l, ns, h => by
    cases x <;> try (cases h; done)
    rename_i i
    have h' : (intsD l).map (i :: ·) = some ns := h
    cases q : intsD l with
    | none =>
      rw [q] at h'
      cases h'
    | some ms =>
      rw [q] at h'
      cases h'
      rw [ints_of q, List.map_cons]
@[simp] theorem ints_map : ∀ ns : List Int, intsD (ns.map D.int) = some ns
  | [] => rfl
  | n :: ns => by
    show (intsD (ns.map D.int)).map (n :: ·) = _
    rw [ints_map ns]
    rfl
def bools : List D → Option (List Bool)
  | [] => some []
  | .bl i :: l => (bools l).map (i :: ·)
  | _ :: _ => none
theorem bools_of : ∀ {l : List D} {ns : List Bool}, bools l = some ns → l = ns.map D.bl
  | [], ns, h => by
    cases h
    rfl
  | x :: l, ns, h => by
    cases x <;> try (cases h; done)
    rename_i i
    have h' : (bools l).map (i :: ·) = some ns := h
    cases q : bools l with
    | none =>
      rw [q] at h'
      cases h'
    | some ms =>
      rw [q] at h'
      cases h'
      rw [bools_of q, List.map_cons]
@[simp] theorem bools_map : ∀ ns : List Bool, bools (ns.map D.bl) = some ns
  | [] => rfl
  | n :: ns => by
    show (bools (ns.map D.bl)).map (n :: ·) = _
    rw [bools_map ns]
    rfl
def strsD : List D → Option (List Str)
  | [] => some []
  | .str i :: l => (strsD l).map (i :: ·)
  | _ :: _ => none
theorem strs_of : ∀ {l : List D} {ns : List Str}, strsD l = some ns → l = ns.map D.str
  | [], ns, h => by
    cases h
    rfl
  | x :: l, ns, h => by
    cases x <;> try (cases h; done)
    rename_i i
    have h' : (strsD l).map (i :: ·) = some ns := h
    cases q : strsD l with
    | none =>
      rw [q] at h'
      cases h'
    | some ms =>
      rw [q] at h'
      cases h'
      rw [strs_of q, List.map_cons]
@[simp] theorem strs_map : ∀ ns : List Str, strsD (ns.map D.str) = some ns
  | [] => rfl
  | n :: ns => by
    show (strsD (ns.map D.str)).map (n :: ·) = _
    rw [strs_map ns]
    rfl
def lall (l : List D) : Option D := (bools l).map fun bs => D.bl (bs.all id)
def lany (l : List D) : Option D := (bools l).map fun bs => D.bl (bs.any id)
def lsum (l : List D) : Option D := (intsD l).map fun ns => D.int ns.sum
theorem cd_all (hc : X.calm = true) : CallD X (.builtin "all") (rL X.K C) (rD X.K C) lall := by
  refine ⟨_, cr_all hc, fun F H H0 x dx Q e r1 p => ?_⟩
  unfold lall at p
  obtain ⟨a, vs, rfl, h1, a1⟩ := r1
  cases q : bools dx with
  | none =>
    rw [q] at p
    exact (show False from p).elim
  | some bs =>
    rw [q] at p
    obtain rfl := bools_of q
    obtain rfl := a1.bools
    exact ⟨a, bs, rfl, h1, fin_here p e (.bl _)⟩
theorem cd_any (hc : X.calm = true) : CallD X (.builtin "any") (rL X.K C) (rD X.K C) lany := by
  refine ⟨_, cr_any hc, fun F H H0 x dx Q e r1 p => ?_⟩
  unfold lany at p
  obtain ⟨a, vs, rfl, h1, a1⟩ := r1
  cases q : bools dx with
  | none =>
    rw [q] at p
    exact (show False from p).elim
  | some bs =>
    rw [q] at p
    obtain rfl := bools_of q
    obtain rfl := a1.bools
    exact ⟨a, bs, rfl, h1, fin_here p e (.bl _)⟩
theorem cd_sum (hc : X.calm = true) : CallD X (.builtin "sum") (rL X.K C) (rD X.K C) lsum := by
  refine ⟨_, cr_sum hc, fun F H H0 x dx Q e r1 p => ?_⟩
  unfold lsum at p
  obtain ⟨a, vs, rfl, h1, a1⟩ := r1
  cases q : intsD dx with
  | none =>
    rw [q] at p
    exact (show False from p).elim
  | some bs =>
    rw [q] at p
    obtain rfl := ints_of q
    obtain rfl := a1.ints
    exact ⟨a, bs, rfl, h1, fin_here p e (.int _)⟩
theorem cd_int1 : CallD X (.type "int") (rD X.K C) (rD X.K C) (fun x => match x with | .int i => some (.int i) | .bl b => some (.int (if b then 1 else 0)) | _ => none) := by
  refine ⟨_, call_int1, fun F H H0 x dx Q e r1 p => ?_⟩
  cases dx <;> try (exact (show False from p).elim)
  · cases r1
    exact .inr ⟨_, rfl, fin_here p e (.int _)⟩
  · cases r1
    exact .inl ⟨_, rfl, fin_here p e (.int _)⟩
end

/-! ## isinstance with built-in classes -/
/-- is the data of the built-in class n -/
def D.isA (n : String) : D → Bool
  | .non => n == "NoneType"
  | .bl _ => n == "bool" || n == "int"
  | .int _ => n == "int"
  | .str _ => n == "str"
  | .tup _ => n == "tuple"
  | .lst _ => n == "list"
  | .exc _ _ => false
def D.plain : D → Bool
  | .exc _ _ => false
  | _ => true
section
variable {X : Cx} {C : Ctab}
theorem ty_tup {K : PySem.W.Frag} {H : Hp} {a : Addr} {vs : List V} (h : SqT K H a vs) : TyX K H (.ref a) (.type "tuple") := by
  rcases h with (h | ⟨o, h⟩) | ⟨o, its, n, h, hc, _⟩
  · exact .base (.tup h)
  · exact .fTuple h
  · exact .kTuple h hc
theorem rIs1 {K : PySem.W.Frag} {F H : Hp} {x : V} {d : D} {n : String} {Q : VK} (hn : n = "int" ∨ n = "bool" ∨ n = "str" ∨ n = "tuple" ∨ n = "list") (e : Ex F H) (r : Rp K C H x d) (hp : d.plain = true) (q : Q (.bl (d.isA n)) H) : rIsi K [x, .ty n] H Q := by
  have key : ∀ (T : String) (b : Bool), TyX K H x (.type T) → kitB T n = some b → d.isA n = b → rIsi K [x, .ty n] H Q := fun T b ty kb eb => ⟨x, .ty n, .type T, .type n, b, rfl, .ty n, ty, kit_ty kb, by rw [← eb]; exact q⟩
  cases r with
  | non => rcases hn with rfl | rfl | rfl | rfl | rfl <;> exact key "NoneType" false (.base .non) (by decide +kernel) (by decide)
  | bl b => rcases hn with rfl | rfl | rfl | rfl | rfl <;> first | exact key "bool" true (.base (.bl b)) (by decide +kernel) rfl | exact key "bool" false (.base (.bl b)) (by decide +kernel) rfl
  | int i => rcases hn with rfl | rfl | rfl | rfl | rfl <;> first | exact key "int" true (.base (.int i)) (by decide +kernel) rfl | exact key "int" false (.base (.int i)) (by decide +kernel) rfl
  | str z => rcases hn with rfl | rfl | rfl | rfl | rfl <;> first | exact key "str" true (.base (.str z)) (by decide +kernel) rfl | exact key "str" false (.base (.str z)) (by decide +kernel) rfl
  | tup h1 a1 => rcases hn with rfl | rfl | rfl | rfl | rfl <;> first | exact key "tuple" true (ty_tup h1) (by decide +kernel) rfl | exact key "tuple" false (ty_tup h1) (by decide +kernel) rfl
  | lst h1 a1 => rcases hn with rfl | rfl | rfl | rfl | rfl <;> first | exact key "list" true (.base (.lst h1)) (by decide +kernel) rfl | exact key "list" false (.base (.lst h1)) (by decide +kernel) rfl
  | exc h1 h2 h3 h4 => exact absurd (show false = true from hp) Bool.false_ne_true
end
section
variable {g : G} {Γ : List Sl} {e a b c : Expr} {pos p1 p2 : Pos}
def isaD (n : String) (x : D) : Option D := if x.plain = true then some (.bl (x.isA n)) else none
theorem ce_isa (n : String) {x : Str} {r : R D} (h : CR g a Γ r) (hn : n = "int" ∨ n = "bool" ∨ n = "str" ∨ n = "tuple" ∨ n = "list") (hm : g.X.mg "isinstance" = none) (hm2 : g.X.mg x = none) (hv2 : bootBuiltins x = some (.type n)) (hg : Gl g.X "isinstance" := by rfl) (hg2 : Gl g.X x := by rfl)
    (hx : x ≠ "__name__" := by decide) (hxd : (x == ("__debug__" : Str)) = false := by decide) (he : starEach [a, .Name x p2] g.X.env = (false, eval a g.X.env) :: starEach [.Name x p2] g.X.env := by rfl) (he2 : starEach [.Name x p2] g.X.env = [(false, eval (.Name x p2) g.X.env)] := by rfl) :
    CE g (.Call (.Name "isinstance" p1) [a, .Name x p2] [] pos) Γ (r >>= fun v => .of (isaD n v)) := .mk fun F H σ Q E p => by
  refine wE_of (pe_callB call_isi hg hm (by decide +kernel) (pa_cons (pe_w _ a) (pa_cons (pe_bltn (v := .ty n) hg2 hm2 hv2 rfl hx hxd) pa_nil he2) he) (by decide) (by decide) he (by rw [he2]; rfl)) ?_
  refine h F H σ _ E (p.seq fun v u F1 H1 g1 r1 p1 => ?_)
  unfold isaD at p1
  by_cases hp : v.plain = true
  · rw [if_pos hp] at p1
    exact rIs1 hn g1.fh r1 hp (p1.here g1.fh (.bl _))
  · rw [if_neg hp] at p1
    exact (show False from p1).elim
end

/-! ## lists of ours that change -/
section
variable {T S α : Type} {g : G} {ζ : Ret T} {Γ : List Sl} {γ : S → List Sl} {e a b c : Expr} {pos p1 p2 p3 : Pos} {st : Stmt} {sts : List Stmt} {Dn : Ends}
/-- xs.append(e); .. -/
theorem cb_append (i : Nat) {n : Str} {xs : List D} {r : R D} {k : List D → R (Fl T S)} (h : CE g e Γ r) (h2 : ∀ ys, CB g ζ γ sts (Γ.set i (.l ys)) (k ys)) (hi : Γ[i]? = some (.l xs) := by rfl) (hN : g.X.N[i]? = some n := by rfl)
    (hv : Vis g.X.env.scope n := by first | exact Or.inl rfl | exact Or.inr (Or.inl rfl) | exact Or.inr (Or.inr rfl)) (hd : (n == ("__debug__" : Str)) = false := by decide) (hcd : (n == ("__classdict__" : Str)) = false := by decide)
    (hs : swapsWith (.Call (.Attribute (.Name n p1) "append" p2) [e] [] p3) none pos.line g.X.env = pure false := by rfl)
    (hbase : attributeBase (.Name n p1) "append" g.X.env (eval (.Name n p1) g.X.env) = eval (.Name n p1) g.X.env := by rfl)
    (hfew : ((backTo p3 (starEach [e] g.X.env)).all (fun x => !x.1) && (backToKw p3 (keywordEach [] g.X.env)).all (fun x => x.1.isSome) && decide (([e] : List Expr).length + ([] : List Keyword).length + (if ([] : List Keyword).isEmpty then 0 else 1) < 30)) = true := by rfl)
    (hline : (p2.endLine == p3.line) = true := by rfl) (hst : starEach [e] g.X.env = [(false, eval e g.X.env)] := by rfl) :
    CB g ζ γ (.Expr (.Call (.Attribute (.Name n p1) "append" p2) [e] [] p3) pos :: sts) Γ (r >>= fun x => if xs.length < lim then k (xs ++ [x]) else .un) := .mk fun F H σ Dn E p => by
  refine wB_of (pss_cons (ps_expr (pe_bm PySem.F.plainAttrs_list PySem.F.slot_list_append PySem.F.type_list_append mt_append (pe_var hN hv hd hcd) (pa_cons (pe_w _ e) pa_nil hst) hbase hfew hline (by rw [hst]; rfl) (by rfl)) hs) (pss_w _ sts)) ?_
  obtain ⟨o, h1, a, vs, rfl, hb, hf, hh, ra⟩ := E.sl i _ hi
  refine ⟨_, h1, .inl ⟨rfl, _, SqL.of hh⟩, ?_⟩
  refine h F H σ _ E (p.expr E fun x v F1 H1 g1 r1 E1 p' => ?_)
  split at p'
  · rename_i hl
    have hh1 := g1.h.at hh
    have ra1 := ra.mono g1.f
    refine ⟨a, vs, v, rfl, rfl, hh1, by rw [ra.length]; exact lim_lt hl, ?_⟩
    exact h2 _ F1 _ σ Dn (EnvOk.write E1 hi rfl h1 ⟨a, _, rfl, hb, g1.n _ _ hh hf, upd_same, ra1.append (.one r1)⟩) p'
  · exact (show False from p').elim
/-- xs[i] = e; .. -/
def lset (xs : List D) (i : D) (x : D) : Option (List D) := match i with
  | .int k => (ixN xs.length k).map fun j => xs.set j x
  | _ => none
theorem cb_setIx (i : Nat) {n : Str} {xs : List D} {r ri : R D} {k : List D → R (Fl T S)} (h : CE g e Γ r) (hix : CE g b Γ ri) (h2 : ∀ ys, CB g ζ γ sts (Γ.set i (.l ys)) (k ys)) (hi : Γ[i]? = some (.l xs) := by rfl) (hN : g.X.N[i]? = some n := by rfl)
    (hv : Vis g.X.env.scope n := by first | exact Or.inl rfl | exact Or.inr (Or.inl rfl) | exact Or.inr (Or.inr rfl)) (hd : (n == ("__debug__" : Str)) = false := by decide) (hcd : (n == ("__classdict__" : Str)) = false := by decide)
    (hs1 : swapsWithSole [.Subscript (.Name n p1) b p2] e pos.line g.X.env = pure false := by rfl) (hs2 : swappedStores [.Subscript (.Name n p1) b p2] e g.X.env = pure none := by rfl) (hs3 : (assignEach [.Subscript (.Name n p1) b p2] g.X.env).map (·.2) = [assign (.Subscript (.Name n p1) b p2) g.X.env] := by rfl)
    (ha : ∀ v, assign (.Subscript (.Name n p1) b p2) g.X.env v = (do
      let ov ← holding [v] (eval (.Name n p1) g.X.env)
      let iv ← holding [v, ov] (eval b g.X.env)
      standAt p2
      holding [v, ov, iv] (setItem ov iv v)
      release [v, ov, iv] []) := by intro _; rfl) :
    CB g ζ γ (.Assign [.Subscript (.Name n p1) b p2] e pos :: sts) Γ (r >>= fun x => ri >>= fun y => R.of (lset xs y x) >>= k) := .mk fun F H σ Dn E p => by
  refine wB_of (pss_cons (ps_asg (pe_w _ e) (pg_sub (pe_var hN hv hd hcd) (pe_w _ b) set_list ha) hs1 hs2 hs3) (pss_w _ sts)) ?_
  refine h F H σ _ E (p.expr E fun x v F1 H1 g1 r1 E1 p' => ?_)
  obtain ⟨o, h1, a, vs, rfl, hb, hf, hh, ra⟩ := E1.sl i _ hi
  refine ⟨_, h1, ?_⟩
  refine hix F1 H1 σ _ E1 (p'.expr E1 fun y w F2 H2 g2 r2 E2 p2 => ?_)
  cases y <;> try (exact (show False from p2).elim)
  rename_i z
  have p3 : PostS g ζ γ Dn F2 (R.of ((ixN xs.length z).map fun j => xs.set j x) >>= k) := p2
  cases q : ixN xs.length z with
  | none =>
    rw [q] at p3
    exact (show False from p3).elim
  | some j =>
    rw [q] at p3
    have hh2 := g2.h.at hh
    refine ⟨a, vs, z, j, rfl, int_of r2, hh2, by rw [ra.length]; exact q, ?_⟩
    exact h2 _ F2 _ σ Dn (EnvOk.write E2 hi rfl h1 ⟨a, _, rfl, hb, g2.n _ _ hh hf, upd_same, (ra.mono g2.f).set (Rp.mono g2.f r1) j⟩) p3
/-- a, b = data; .. -/
theorem cb_two (i j : Nat) {n m : Str} {kk : Nat} {tp : Pos} {r : R D} {k : D → D → R (Fl T S)} (h : CE g e Γ r) (h2 : ∀ x y, CB g ζ γ sts ((Γ.set i (.d x)).set j (.d y)) (k x y)) (hc : g.X.calm = true)
    (nd : g.X.N.Nodup) (hN : g.X.N[i]? = some n := by rfl) (hx : Loc g.X.env.scope n := by first | exact Or.inl rfl | exact Or.inr rfl) (hf : g.X.fn n = true ∨ g.X.env.scope.names.lookup n = some .local := by first | exact .inl rfl | exact .inr rfl)
    (hj : g.X.N[j]? = some m := by rfl) (hy : Loc g.X.env.scope m := by first | exact Or.inl rfl | exact Or.inr rfl) (hf2 : g.X.fn m = true ∨ g.X.env.scope.names.lookup m = some .local := by first | exact .inl rfl | exact .inr rfl)
    (s1 : (assignEach [.Name n p1, .Name m p2] g.X.env).map (·.2) = assign (.Name n p1) g.X.env :: (assignEach [.Name m p2] g.X.env).map (·.2) := by rfl) (s2 : (assignEach [.Name m p2] g.X.env).map (·.2) = assign (.Name m p2) g.X.env :: (assignEach [] g.X.env).map (·.2) := by rfl)
    (hn : (assignEach [.Name n p1, .Name m p2] g.X.env).length = 2 := by rfl) (hst : (assignEach [.Name n p1, .Name m p2] g.X.env).findIdx? (·.1) = none := by rfl)
    (hs1 : swapsWithSole [.Tuple [.Name n p1, .Name m p2] kk tp] e pos.line g.X.env = pure false := by rfl) (hs2 : swappedStores [.Tuple [.Name n p1, .Name m p2] kk tp] e g.X.env = pure none := by rfl) (hs3 : (assignEach [.Tuple [.Name n p1, .Name m p2] kk tp] g.X.env).map (·.2) = [assign (.Tuple [.Name n p1, .Name m p2] kk tp) g.X.env] := by rfl) :
    CB g ζ γ (.Assign [.Tuple [.Name n p1, .Name m p2] kk tp] e pos :: sts) Γ (r >>= D.two k) := .mk fun F H σ Dn E p => by
  refine wB_of (pss_cons (ps_asg (pe_w _ e) (pg_w _ _) hs1 hs2 hs3) (pss_w _ sts)) ?_
  refine h F H σ _ E (p.expr E fun z v F1 H1 g1 r1 E1 p' => ?_)
  by_cases hz : ∃ x y, z = .tup [x, y]
  · obtain ⟨x, y, rfl⟩ := hz
    intro pins s u I ru
    exact cp_tup2 i j hc nd hN hx hf hj hy hf2 s1 s2 hn hst F1 H1 σ v _ E1 r1 (fun σ' E' => h2 x y F1 H1 σ' Dn E' p') pins s u I ru
  · have q : D.two k z = .un := by
      unfold D.two
      split
      · exact (hz ⟨_, _, rfl⟩).elim
      · rfl
    rw [q] at p'
    exact (show False from p').elim
/-- a, b = x, y (two plain local names); .. -/
theorem cb_par (i j : Nat) {n m : Str} {kt k2 : Nat} {tp tp2 : Pos} {ra rb : R D} {k : D → D → R (Fl T S)} (ha : CE g a Γ ra) (hb : CE g b Γ rb) (h2 : ∀ x y, CB g ζ γ sts ((Γ.set i (.d x)).set j (.d y)) (k x y)) (hc : g.X.calm = true)
    (nd : g.X.N.Nodup) (hw : swappedStores [.Tuple [.Name n p1, .Name m p2] kt tp] (.Tuple [a, b] k2 tp2) g.X.env = pure (some [n, m])) (hij : i ≠ j := by decide) (hN : g.X.N[i]? = some n := by rfl) (hx : g.X.env.scope.names.lookup n = some .local := by rfl) (hj : g.X.N[j]? = some m := by rfl) (hy : g.X.env.scope.names.lookup m = some .local := by rfl)
    (hs : swapsWithSole [.Tuple [.Name n p1, .Name m p2] kt tp] (.Tuple [a, b] k2 tp2) pos.line g.X.env = pure false := by rfl)
    (s1 : starEach [a, b] g.X.env = (false, eval a g.X.env) :: starEach [b] g.X.env := by rfl) (s2 : starEach [b] g.X.env = [(false, eval b g.X.env)] := by rfl) :
    CB g ζ γ (.Assign [.Tuple [.Name n p1, .Name m p2] kt tp] (.Tuple [a, b] k2 tp2) pos :: sts) Γ (ra >>= fun x => rb >>= fun y => k x y) := .mk fun F H σ Dn E p => by
  refine wB_of (pss_cons (ps_par hc nd hN hj hij hx hy (pa_cons (pe_w _ a) (pa_cons (pe_w _ b) pa_nil s2) s1) hw hs) (pss_w _ sts)) ?_
  refine ha F H σ _ E (p.expr E fun x v F1 H1 g1 r1 E1 p' => hb F1 H1 σ _ E1 (p'.expr E1 fun y w F2 H2 g2 r2 E2 p2 => ?_))
  exact ⟨v, w, rfl, h2 x y F2 H2 _ Dn ((EnvOk.set_d E2 i (Rp.mono g2.f r1)).set_d j r2) p2⟩
end
end DL
end
section
set_option Elab.async false
set_option linter.all false
set_option maxRecDepth 100000
set_option maxHeartbeats 2000000
set_option autoImplicit false
namespace DL
open PySem PySem.Spec PyProof.Rows L2
variable [TN]

/-! ## own dicts with keys ints and texts -/
abbrev DK := List (Key × D)
def D.key : D → Option Key
  | .int i => some (.inl i)
  | .str x => some (.inr x)
  | _ => none
theorem key_of {K : PySem.W.Frag} {C : Ctab} {F : Hp} {v : V} {d : D} {k : Key} (r : Rp K C F v d) (h : d.key = some k) : v = kV k := by
  cases d <;> try (cases h; done)
  · cases h
    exact int_of r
  · cases h
    exact str_of r
def dval (kvs : DK) (k : Key) : Option D := (kvs.find? fun kv => decide (kv.1 = k)).map (·.2)
def dput (kvs : DK) (k : Key) (x : D) : DK := if (kvs.any fun kv => decide (kv.1 = k)) = true then kvs.map (fun kv => if kv.1 = k then (kv.1, x) else kv) else kvs ++ [(k, x)]
section
variable {K : PySem.W.Frag} {C : Ctab} {F : Hp}
theorem RpK.any {ws : List (Key × V)} {kvs : DK} (h : RpK K C F ws kvs) (k : Key) : (ws.any fun kv => decide (kv.1 = k)) = (kvs.any fun kv => decide (kv.1 = k)) := by
  induction h with
  | nil => rfl
  | cons q t ih =>
    rw [List.any_cons, List.any_cons, ih, q.1]
theorem RpK.length {ws : List (Key × V)} {kvs : DK} (h : RpK K C F ws kvs) : ws.length = kvs.length := by
  induction h with
  | nil => rfl
  | cons q t ih => rw [List.length_cons, List.length_cons, ih]
theorem RpK.val {ws : List (Key × V)} {kvs : DK} (h : RpK K C F ws kvs) (k : Key) : (valV ws k = none ∧ dval kvs k = none) ∨ ∃ v x, valV ws k = some v ∧ dval kvs k = some x ∧ Rp K C F v x := by
  induction h with
  | nil => exact .inl ⟨rfl, rfl⟩
  | @cons p q ps qs h t ih =>
    by_cases e : p.1 = k
    · right
      refine ⟨p.2, q.2, ?_, ?_, h.2⟩
      · unfold valV
        rw [List.find?_cons_of_pos (by simpa using e)]
        rfl
      · unfold dval
        rw [List.find?_cons_of_pos (by simpa using h.1.symm.trans e)]
        rfl
    · have e' : ¬ q.1 = k := fun z => e (h.1.trans z)
      have l1 : valV (p :: ps) k = valV ps k := by
        unfold valV
        rw [List.find?_cons_of_neg (by simpa using e)]
      have l2 : dval (q :: qs) k = dval qs k := by
        unfold dval
        rw [List.find?_cons_of_neg (by simpa using e')]
      rw [l1, l2]
      exact ih
theorem RpK.map_put {ws : List (Key × V)} {kvs : DK} {v : V} {x : D} (h : RpK K C F ws kvs) (k : Key) (r : Rp K C F v x) :
    RpK K C F (ws.map (fun kv => if kv.1 = k then (kv.1, v) else kv)) (kvs.map (fun kv => if kv.1 = k then (kv.1, x) else kv)) := by
  induction h with
  | nil => exact .nil
  | @cons p q ps qs h t ih =>
    refine .cons ?_ ih
    dsimp only
    by_cases e : p.1 = k
    · rw [if_pos e, if_pos (h.1.symm.trans e)]
      exact ⟨h.1, r⟩
    · rw [if_neg e, if_neg (fun z => e (h.1.trans z))]
      exact h
theorem RpK.snoc {ws : List (Key × V)} {kvs : DK} {v : V} {x : D} (h : RpK K C F ws kvs) (k : Key) (r : Rp K C F v x) : RpK K C F (ws ++ [(k, v)]) (kvs ++ [(k, x)]) := by
  induction h with
  | nil => exact .cons ⟨rfl, r⟩ .nil
  | cons h t ih => exact .cons h ih
theorem RpK.put {ws : List (Key × V)} {kvs : DK} {v : V} {x : D} (h : RpK K C F ws kvs) (k : Key) (r : Rp K C F v x) : RpK K C F (putK ws k v) (dput kvs k x) := by
  unfold putK dput
  rw [h.any k]
  split
  · exact h.map_put k r
  · exact h.snoc k r
end
/-- a dict of ours is read, changed -/
def dget (kvs : DK) (y : D) : Option D := y.key >>= fun k => dval kvs k
def dset (kvs : DK) (y x : D) : Option DK := if kvs.length < lim then y.key.map fun k => dput kvs k x else none
/-- a new dict -/
def rK (K : PySem.W.Frag) (C : Ctab) : Rep V DK := ⟨fun H0 F H v kvs => ∃ p ws, v = .ref p ∧ H0 p = none ∧ F p = none ∧ H p = some (.dK ws) ∧ RpK K C F ws kvs,
  fun e ⟨p, ws, e1, h, r⟩ => ⟨p, ws, e1, e p h, r⟩, fun g ⟨p, ws, e, h0, hf, h, r⟩ => ⟨p, ws, e, h0, g.n _ _ h hf, g.h.at h, r.mono g.f⟩⟩
section
variable {T S : Type} {g : G} {ζ : Ret T} {Γ : List Sl} {γ : S → List Sl} {e a b c : Expr} {pos p1 p2 p3 : Pos} {st : Stmt} {sts : List Stmt} {Dn : Ends}
/-- d[e] -/
theorem ce_dget (i : Nat) {ad : Addr} {kvs : DK} {n : Str} {r : R D} (h : CE g e Γ r) (hu : g.X.A.units + 64 < cLine) (hi : Γ[i]? = some (.k ad kvs) := by rfl) (hN : g.X.N[i]? = some n := by rfl) (hs : NoSl e := by rfl)
    (hv : Vis g.X.env.scope n := by first | exact Or.inl rfl | exact Or.inr (Or.inl rfl) | exact Or.inr (Or.inr rfl)) (hd : (n == ("__debug__" : Str)) = false := by decide) (hcd : (n == ("__classdict__" : Str)) = false := by decide) :
    CE g (.Subscript (.Name n p1) e pos) Γ (r >>= fun y => .of (dget kvs y)) := .mk fun F H σ Q E p => by
  refine wE_of (pe_dget (by omega) (pe_var hN hv hd hcd) (pe_w _ e) hs) ?_
  obtain ⟨o, h1, ws, rfl, hb, hf, hh, ra⟩ := E.sl i _ hi
  refine ⟨_, h1, h F H σ _ E (p.seq fun y v F1 H1 g1 r1 p1 => ?_)⟩
  unfold dget at p1
  cases q : y.key with
  | none =>
    rw [q] at p1
    exact (show False from p1).elim
  | some k =>
    obtain rfl := key_of r1 q
    have p2 : Post g (rD g.X.K g.C) F1 H1 σ Q (.of (dval kvs k)) := by
      rw [q] at p1
      exact p1
    rcases (ra.mono g1.f).val k with ⟨_, q2⟩ | ⟨v, x, q1, q2, r2⟩
    · rw [q2] at p2
      exact (show False from p2).elim
    · rw [q2] at p2
      exact ⟨ad, v, rfl, by rw [← q1]; exact DGet.k (g1.h.at hh), p2.here g1.fh r2⟩
/-- d[e] = v; .. -/
theorem cb_dput (i : Nat) {ad : Addr} {kvs : DK} {n : Str} {r ri : R D} {k : DK → R (Fl T S)} (h : CE g e Γ r) (hix : CE g b Γ ri) (hu : g.X.A.units + 64 < cLine) (h2 : ∀ kvs', CB g ζ γ sts (Γ.set i (.k ad kvs')) (k kvs')) (hi : Γ[i]? = some (.k ad kvs) := by rfl) (hN : g.X.N[i]? = some n := by rfl)
    (hv : Vis g.X.env.scope n := by first | exact Or.inl rfl | exact Or.inr (Or.inl rfl) | exact Or.inr (Or.inr rfl)) (hd : (n == ("__debug__" : Str)) = false := by decide) (hcd : (n == ("__classdict__" : Str)) = false := by decide)
    (hs : swapsWith e (some (.Subscript (.Name n p1) b p2)) pos.line g.X.env = pure false := by rfl) :
    CB g ζ γ (.Assign [.Subscript (.Name n p1) b p2] e pos :: sts) Γ (r >>= fun x => ri >>= fun y => R.of (dset kvs y x) >>= k) := .mk fun F H σ Dn E p => by
  refine wB_of (pss_cons (ps_dput (by omega) (pe_var hN hv hd hcd) (pe_w _ b) (pe_w _ e) hs) (pss_w _ sts)) ?_
  refine h F H σ _ E (p.expr E fun x v F1 H1 g1 r1 E1 p' => ?_)
  obtain ⟨o, h1, ws, rfl, hb, hf, hh, ra⟩ := E1.sl i _ hi
  refine ⟨_, h1, ?_⟩
  refine hix F1 H1 σ _ E1 (p'.expr E1 fun y w F2 H2 g2 r2 E2 p2 => ?_)
  unfold dset at p2
  split at p2
  case isFalse => exact (show False from p2).elim
  rename_i hl
  cases q : y.key with
  | none =>
    rw [q] at p2
    exact (show False from p2).elim
  | some k =>
    rw [q] at p2
    obtain rfl := key_of r2 q
    have hh2 := g2.h.at hh
    refine ⟨ad, _, rfl, DPut.k hh2 (by rw [ra.length]; exact lim_lt hl), ?_⟩
    exact h2 _ F2 _ σ Dn (EnvOk.write E2 hi rfl h1 ⟨_, rfl, hb, g2.n _ _ hh hf, upd_same, (ra.mono g2.f).put k (Rp.mono g2.f r1)⟩) p2
/-- x = a new dict; .. -/
theorem cb_setK (i : Nat) {n : Str} {r : R DK} {k : DK → R (Fl T S)} (h : CG g (rK g.X.K g.C) e Γ r) (h2 : ∀ ad x, CB g ζ γ sts (Γ.set i (.k ad x)) (k x)) (nd : g.X.N.Nodup) (hi : g.X.N[i]? = some n := by rfl) (hx : Loc g.X.env.scope n := by first | exact Or.inl rfl | exact Or.inr rfl)
    (hf : g.X.fn n = true ∨ g.X.env.scope.names.lookup n = some .local := by first | exact .inl rfl | exact .inr rfl) (hs : swapsWith e (some (.Name n p1)) pos.line g.X.env = pure false := by rfl) :
    CB g ζ γ (.Assign [.Name n p1] e pos :: sts) Γ (r >>= k) := .mk fun F H σ Dn E p =>
  wB_of (pss_cons (ps_set nd hi hx (pe_w _ e) hs hf) (pss_w _ sts)) (h F H σ _ E (p.expr E fun x v F1 H1 g1 r1 E1 p' => by
    obtain ⟨q, vs, rfl, h0, hf, hh, ra⟩ := r1
    refine h2 q x F1 H1 _ Dn (E1.set_own i ⟨vs, rfl, E1.eb.back' h0 E.eb, hf, hh, ra⟩ fun j t _ e ow hs => ?_) p'
    obtain ⟨⟨o, q1, _⟩, _⟩ := EnvOk.own_at E e ow hs
    rw [h0] at q1
    cases q1))
end
end DL
end
section
set_option Elab.async false
set_option linter.all false
set_option maxRecDepth 100000
set_option maxHeartbeats 2000000
set_option autoImplicit false
namespace DL
open PySem PySem.Spec PyProof.Rows L2
variable [TN]

/-! ## a dict of ours that callees change: the state -/
/-- r, then k of its answer and the state behind it -/
def bnd {α β : Type} (r : R (α × DK)) (k : α → DK → R β) : R β := r >>= fun z => k z.1 z.2
@[simp] theorem bnd_ok {α β : Type} (a : α) (s : DK) (k : α → DK → R β) : bnd (.ok (a, s)) k = k a s := rfl
@[simp] theorem bnd_ex {α β : Type} (c : Str) (d : D) (k : α → DK → R β) : bnd (.ex c d) k = .ex c d := rfl
@[simp] theorem bnd_un {α β : Type} (k : α → DK → R β) : bnd .un k = .un := rfl
theorem del_k {H H' : Hp} {a b : Addr} {o : HO} (g : Ex (del H a) H') (q : b ≠ a) (h : H b = some o) (n : nt o) : H' b = some o := g.k b o (by rw [del_ne' q]; exact h) n
theorem del_there {H H' : Hp} {a b : Addr} {o : HO} (g : Ex (del H a) H') (q : b ≠ a) (h : H b = some o) : ∃ o', H' b = some o' := g.there (by rw [del_ne' q]; exact h)
theorem GrS.keep {a : Addr} {F H F' H' : Hp} (g : GrS a F H F' H') {b : Addr} {o : HO} (q : b ≠ a) (h : H b = some o) (n : nt o := by intro _ z; exact nomatch z) : H' b = some o := del_k g.h q h n
theorem Ex.sub {H H' : Hp} (e : Ex H H') {a : Addr} : Ex (del H a) H' := ⟨fun b o h n => by
  by_cases q : b = a
  · subst q
    rw [del_at] at h
    cases h
  · rw [del_ne' q] at h
    exact e.k b o h n, fun b ps h => by
  by_cases q : b = a
  · subst q
    rw [del_at] at h
    cases h
  · rw [del_ne' q] at h
    exact e.t b ps h⟩
theorem Ex.sub_trans {H H1 H2 : Hp} {a : Addr} (e : Ex (del H a) H1) (e2 : Ex (del H1 a) H2) : Ex (del H a) H2 := ⟨fun b o h n => by
  by_cases q : b = a
  · subst q
    rw [del_at] at h
    cases h
  · exact del_k e2 q (e.k b o h n) n, fun b ps h => by
  by_cases q : b = a
  · subst q
    rw [del_at] at h
    cases h
  · obtain ⟨ps1, h1⟩ := e.t b ps h
    exact e2.t b ps1 (by rw [del_ne' q]; exact h1)⟩
theorem GrS.of {a : Addr} {F H F' H' : Hp} (g : Gr F H F' H') : GrS a F H F' H' := ⟨g.f, g.h.sub, g.fh, g.n, g.t⟩
theorem GrS.trans {a : Addr} {F H F1 H1 F2 H2 : Hp} {u : HO} (ha : H1 a = some u) (g : GrS a F H F1 H1) (g' : GrS a F1 H1 F2 H2) : GrS a F H F2 H2 := by
  refine ⟨g.f.trans g'.f, g.h.sub_trans g'.h, g'.fh, fun b o h hf => ?_, g.t.trans g'.t⟩
  have h1 := g.n b o h hf
  by_cases q : b = a
  · subst q
    exact g'.n b u ha h1
  · obtain ⟨o', h'⟩ := del_there g.h q h
    exact g'.n b o' h' h1
theorem ne_of_some {a p : Addr} {u : HO} {H1 : Hp} (ha : H1 a = some u) (h : H1 p = none) : p ≠ a := fun z => by
  subst z
  rw [ha] at h
  cases h
theorem GrS.dom {a : Addr} {F H F1 H1 : Hp} {u : HO} (ha : H1 a = some u) (g : GrS a F H F1 H1) (p : Addr) (h : H1 p = none) : H p = none := by
  have q : p ≠ a := ne_of_some ha h
  cases z : H p with
  | none => rfl
  | some o =>
    obtain ⟨o', h'⟩ := del_there g.h q z
    rw [h'] at h
    cases h
/-- .. behind what was raised: the place a itself is not told of -/
structure GrX (a : Addr) (F H F' H' : Hp) : Prop where
  f : Ex F F'
  h : Ex (del H a) H'
  fh : Ex F' H'
  n : ∀ b o, b ≠ a → H b = some o → F b = none → F' b = none
  t : TX H H'
theorem GrS.x {a : Addr} {F H F' H' : Hp} (g : GrS a F H F' H') : GrX a F H F' H' := ⟨g.f, g.h, g.fh, fun b o _ => g.n b o, g.t⟩
theorem GrX.of {a : Addr} {F H F' H' : Hp} (g : Gr F H F' H') : GrX a F H F' H' := (GrS.of g).x
theorem GrS.transX {a : Addr} {F H F1 H1 F2 H2 : Hp} (g : GrS a F H F1 H1) (g' : GrX a F1 H1 F2 H2) : GrX a F H F2 H2 :=
  ⟨g.f.trans g'.f, g.h.sub_trans g'.h, g'.fh, fun b o q h hf => by
    obtain ⟨o', h'⟩ := del_there g.h q h
    exact g'.n b o' q h' (g.n b o h hf), g.t.trans g'.t⟩
/-- the state stands at a -/
structure StA (K : PySem.W.Frag) (C : Ctab) (F H : Hp) (a : Addr) (s : DK) : Prop where
  f : F a = none
  h : ∃ ws, H a = some (.dK ws) ∧ RpK K C F ws s
section
variable {K : PySem.W.Frag} {C : Ctab} {B F0 F H F' H' : Hp} {σ : L2.St} {Γ Γ' : List Sl} {a : Addr} {s s' : DK} {i : Nat}
theorem EnvOk.stA (E : EnvOk K C B F0 F H σ Γ) (hi : Γ[i]? = some (.k a s)) : StA K C F H a s := by
  obtain ⟨o, h1, ws, rfl, hb, hf, hh, ra⟩ := E.sl i _ hi
  exact ⟨hf, ws, hh, ra⟩
theorem StA.gr (h : StA K C F H a s) (g : Gr F H F' H') : StA K C F' H' a s := by
  obtain ⟨hf, ws, hh, r⟩ := h
  exact ⟨g.n _ _ hh hf, ws, g.h.at hh, r.mono g.f⟩
theorem EnvOk.grS (E : EnvOk K C B F0 F H σ Γ) (hi : Γ[i]? = some (.k a s)) (g : GrS a F H F' H') (st : StA K C F' H' a s') : EnvOk K C B F0 F' H' σ (Γ.set i (.k a s')) := by
  obtain ⟨hf, ws, hh, r⟩ := st
  exact E.growS hi g hh r
theorem EnvOk.basS (E : EnvOk K C B F0 F H σ Γ) (hi : Γ[i]? = some (.k a s)) (g : GrX a F H F' H') : Bas B F0 F' H' := by
  obtain ⟨o, h1, ws, rfl, hb, hf, hh, ra⟩ := E.sl i _ hi
  have ne : ∀ {b : Addr} {u : HO}, B b = some u → b ≠ a := fun {b u} z q => by
    rw [q, hb] at z
    cases z
  have eb' : Ex B (del H a) := ⟨fun b u z nu => by
    rw [del_ne' (ne z)]
    exact E.eb.k b u z nu, fun b ps z => by
    rw [del_ne' (ne z)]
    exact E.eb.t b ps z⟩
  exact ⟨eb'.trans g.h, E.e0.trans g.f, g.fh, fun b u z z0 => by
    obtain ⟨u', z'⟩ := E.eb.there z
    exact g.n b u' (ne z) z' (E.fr b u z z0), E.tb.trans g.t⟩
end

section
variable {α β α1 β1 : Type}
def PostT (g : G) (ρ : Rep β α) (a : Addr) (F H : Hp) (σ : L2.St) (Q : β → Hp → Prop) : R (α × DK) → Prop
  | .ok (x, s) => ∀ b F' H', GrS a F H F' H' → StA g.X.K g.C F' H' a s → ρ.r H F' H' b x → Q b H'
  | .ex c x => ∀ cl dx F' H', GrX a F H F' H' → ExR g.X.K g.C F' cl dx c x → g.W cl (some dx) σ H'
  | .un => False
variable {g : G} {ρ : Rep β α} {ρ1 : Rep β1 α1} {a : Addr} {F H F1 H1 : Hp} {σ : L2.St} {Q : β → Hp → Prop} {Q1 : β1 → Hp → Prop} {Γ : List Sl} {i : Nat} {s : DK}
theorem StA.there (h : StA g.X.K g.C F H a s) : ∃ o, H a = some o := by
  obtain ⟨hf, ws, hh, r⟩ := h
  exact ⟨_, hh⟩
theorem PostT.mono {r : R (α × DK)} (h : PostT g ρ a F H σ Q r) (gr : GrS a F H F1 H1) (st : StA g.X.K g.C F1 H1 a s) : PostT g ρ a F1 H1 σ Q r := by
  obtain ⟨u, hu⟩ := st.there
  cases r with
  | ok x => exact fun b F' H' g' st' r => h b F' H' (GrS.trans hu gr g') st' (ρ.back (GrS.dom hu gr) r)
  | ex c x => exact fun cl dx F' H' g' r => h cl dx F' H' (GrS.transX gr g') r
  | un => exact h
theorem PostT.here {x : α} {b : β} (h : PostT g ρ a F H σ Q (.ok (x, s))) (e : Ex F H) (st : StA g.X.K g.C F H a s) (r : ρ.r H F H b x) : Q b H := h b F H (GrS.of (Gr.refl e)) st r
/-- what is read only, ahead -/
theorem PostT.pure {r : R α1} {k : α1 → R (α × DK)} (h : PostT g ρ a F H σ Q (r >>= k)) (st : StA g.X.K g.C F H a s)
    (go : ∀ x b F1 H1, Gr F H F1 H1 → ρ1.r H F1 H1 b x → StA g.X.K g.C F1 H1 a s → PostT g ρ a F1 H1 σ Q (k x) → Q1 b H1) : Post g ρ1 F H σ Q1 r := by
  cases r with
  | ok x =>
    have h' : PostT g ρ a F H σ Q (k x) := h
    exact fun b F1 H1 g1 r1 => go x b F1 H1 g1 r1 (st.gr g1) (h'.mono (GrS.of g1) (st.gr g1))
  | ex c x => exact fun cl dx F' H' g' r => h cl dx F' H' (GrX.of g') r
  | un => exact (show False from h).elim
theorem PostT.seq {r : R (α1 × DK)} {k : α1 → DK → R (α × DK)} (h : PostT g ρ a F H σ Q (bnd r k))
    (go : ∀ x s b F1 H1, GrS a F H F1 H1 → StA g.X.K g.C F1 H1 a s → ρ1.r H F1 H1 b x → PostT g ρ a F1 H1 σ Q (k x s) → Q1 b H1) : PostT g ρ1 a F H σ Q1 r := by
  cases r with
  | ok x =>
    obtain ⟨x, s⟩ := x
    have h' : PostT g ρ a F H σ Q (k x s) := h
    exact fun b F1 H1 g1 st r1 => go x s b F1 H1 g1 st r1 (h'.mono g1 st)
  | ex c x => exact h
  | un => exact (show False from h).elim
/-- behind the state's part one without it -/
theorem PostT.ofV {r : Option α} {Q : β → Hp → Prop} (h : PostT g ρ a F H σ Q (R.of r >>= fun x => .ok (x, s))) (st : StA g.X.K g.C F H a s) : PostV ρ F H Q r := by
  cases r with
  | none => exact h
  | some x => exact fun b F' H' gr rr => (show PostT g ρ a F H σ Q (.ok (x, s)) from h) b F' H' (GrS.of gr) (st.gr gr) rr
variable {T S : Type} {ζ : Ret T} {γ : S → List Sl} {Dn : Ends}
theorem PostS.exprT {r : R (α × DK)} {k : α → DK → R (Fl T S)} (hi : Γ[i]? = some (.k a s)) (E : g.Env F H σ Γ) (h : PostS g ζ γ Dn F (bnd r k))
    (go : ∀ x s' b F1 H1, GrS a F H F1 H1 → ρ.r H F1 H1 b x → g.Env F1 H1 σ (Γ.set i (.k a s')) → PostS g ζ γ Dn F1 (k x s') → Q b H1) : PostT g ρ a F H σ Q r := by
  cases r with
  | ok x =>
    obtain ⟨x, s'⟩ := x
    have h' : PostS g ζ γ Dn F (k x s') := h
    exact fun b F1 H1 g1 st r1 => go x s' b F1 H1 g1 r1 (E.grS hi g1 st) (h'.mono g1.f)
  | ex c x => exact fun cl dx F' H' gr er => h cl dx σ F' H' (E.basS hi gr) er
  | un => exact (show False from h).elim
end

/-! ## the judgements with the state -/
section
variable {α : Type}
structure CGS (g : G) (ρ : Rep V α) (a : Addr) (e : Expr) (Γ : List Sl) (r : R (α × DK))  : Prop where
  h : ∀ F H σ Q, g.Env F H σ Γ → PostT g ρ a F H σ Q r → wE g.X e σ H Q
instance (g : G) (ρ : Rep V α) (a : Addr) (e : Expr) (Γ : List Sl) (r : R (α × DK))  : CoeFun (CGS g ρ a e Γ r) (fun _ => ∀ F H σ Q, g.Env F H σ Γ → PostT g ρ a F H σ Q r → wE g.X e σ H Q) := ⟨CGS.h⟩
abbrev CES (g : G) (a : Addr) (e : Expr) (Γ : List Sl) (r : R (D × DK)) : Prop := CGS g (rD g.X.K g.C) a e Γ r
abbrev CNS (g : G) (a : Addr) (e : Expr) (Γ : List Sl) (r : R (List D × DK)) : Prop := CGS g (rN g.X.K g.C) a e Γ r
abbrev CLS (g : G) (a : Addr) (e : Expr) (Γ : List Sl) (r : R (List D × DK)) : Prop := CGS g (rL g.X.K g.C) a e Γ r
structure CTS (g : G) (a : Addr) (e : Expr) (Γ : List Sl) (r : R (Bool × DK))  : Prop where
  h : ∀ F H σ Q, g.Env F H σ Γ → PostT g rB a F H σ Q r → wT g.X e σ H Q
instance (g : G) (a : Addr) (e : Expr) (Γ : List Sl) (r : R (Bool × DK))  : CoeFun (CTS g a e Γ r) (fun _ => ∀ F H σ Q, g.Env F H σ Γ → PostT g rB a F H σ Q r → wT g.X e σ H Q) := ⟨CTS.h⟩
structure CWS (g : G) (a : Addr) (e : Expr) (Γ : List Sl) (r : R (Bool × DK))  : Prop where
  h : ∀ F H σ Q, g.Env F H σ Γ → PostT g rB a F H σ Q r → wW g.X e σ H Q
instance (g : G) (a : Addr) (e : Expr) (Γ : List Sl) (r : R (Bool × DK))  : CoeFun (CWS g a e Γ r) (fun _ => ∀ F H σ Q, g.Env F H σ Γ → PostT g rB a F H σ Q r → wW g.X e σ H Q) := ⟨CWS.h⟩
structure CAS (g : G) (a : Addr) (es : List Expr) (Γ : List Sl) (r : R (List D × DK))  : Prop where
  h : ∀ F H σ Q, g.Env F H σ Γ → PostT g (rA g.X.K g.C) a F H σ Q r → wA g.X es σ H Q
instance (g : G) (a : Addr) (es : List Expr) (Γ : List Sl) (r : R (List D × DK))  : CoeFun (CAS g a es Γ r) (fun _ => ∀ F H σ Q, g.Env F H σ Γ → PostT g (rA g.X.K g.C) a F H σ Q r → wA g.X es σ H Q) := ⟨CAS.h⟩
end
section
variable {α : Type} {g : G} {ρ : Rep V α} {Γ : List Sl} {e b c x y : Expr} {es : List Expr} {a : Addr} {s : DK} {pos p1 p2 : Pos}
/-- without the state -/
theorem CG.st (i : Nat) {r : R α} (h : CG g ρ e Γ r) (hi : Γ[i]? = some (.k a s) := by rfl) : CGS g ρ a e Γ (r >>= fun x => .ok (x, s)) := .mk fun F H σ Q E p => h F H σ Q E (by
  have st := E.stA hi
  cases r with
  | ok x => exact fun b F' H' gr rr => p b F' H' (GrS.of gr) (st.gr gr) rr
  | ex c x => exact fun cl dx F' H' gr er => p cl dx F' H' (GrX.of gr) er
  | un => exact p)
theorem CT.st (i : Nat) {r : R Bool} (h : CT g e Γ r) (hi : Γ[i]? = some (.k a s) := by rfl) : CTS g a e Γ (r >>= fun x => .ok (x, s)) := .mk fun F H σ Q E p => h F H σ Q E (by
  have st := E.stA hi
  cases r with
  | ok x => exact fun b F' H' gr rr => p b F' H' (GrS.of gr) (st.gr gr) rr
  | ex c x => exact fun cl dx F' H' gr er => p cl dx F' H' (GrX.of gr) er
  | un => exact p)
theorem CW.st (i : Nat) {r : R Bool} (h : CW g e Γ r) (hi : Γ[i]? = some (.k a s) := by rfl) : CWS g a e Γ (r >>= fun x => .ok (x, s)) := .mk fun F H σ Q E p => h F H σ Q E (by
  have st := E.stA hi
  cases r with
  | ok x => exact fun b F' H' gr rr => p b F' H' (GrS.of gr) (st.gr gr) rr
  | ex c x => exact fun cl dx F' H' gr er => p cl dx F' H' (GrX.of gr) er
  | un => exact p)
theorem CA.st (i : Nat) {r : R (List D)} (h : CA g es Γ r) (hi : Γ[i]? = some (.k a s) := by rfl) : CAS g a es Γ (r >>= fun x => .ok (x, s)) := .mk fun F H σ Q E p => h F H σ Q E (by
  have st := E.stA hi
  cases r with
  | ok x => exact fun b F' H' gr rr => p b F' H' (GrS.of gr) (st.gr gr) rr
  | ex c x => exact fun cl dx F' H' gr er => p cl dx F' H' (GrX.of gr) er
  | un => exact p)
/-- a + b and the like, data, each with the state -/
theorem cgs_bin (i : Nat) {op : Operator} {h : D → D → Option D} {ra : R (D × DK)} {rb : DK → R (D × DK)} (ho : OpD g.X (binaryOp op) (rD g.X.K g.C) (rD g.X.K g.C) (rD g.X.K g.C) h) (ha : CES g a b Γ ra) (hb : ∀ s', CES g a c (Γ.set i (.k a s')) (rb s')) (hi : Γ[i]? = some (.k a s) := by rfl) :
    CES g a (.BinOp b op c pos) Γ (bnd ra fun y t => bnd (rb t) fun u t => .of (h y u) >>= fun x => .ok (x, t)) := .mk fun F H σ Q E p => by
  obtain ⟨r, h1, h2⟩ := ho
  refine wE_of (pe_op h1 (pe_w _ b) (pe_w _ c)) ?_
  refine ha F H σ _ E (p.seq (k := fun y t => rb t >>= fun u => .of (h y u.1) >>= fun x => .ok (x, u.2)) fun y s1 v F1 H1 g1 st1 r1 p1 => ?_)
  refine hb s1 F1 H1 σ _ (E.grS hi g1 st1) (p1.seq (k := fun u t => .of (h y u) >>= fun x => .ok (x, t)) fun u s2 w F2 H2 g2 st2 r2 p2 => ?_)
  exact h2 F2 H2 H1 H2 v w y u Q g2.fh (Rp.mono g2.f r1) r2 (p2.ofV st2)
theorem cgs_cmp (i : Nat) {op : CmpOp} {h : D → D → Option D} {ra : R (D × DK)} {rb : DK → R (D × DK)} (ho : OpD g.X (compareOp op) (rD g.X.K g.C) (rD g.X.K g.C) (rD g.X.K g.C) h) (ha : CES g a b Γ ra) (hb : ∀ s', CES g a c (Γ.set i (.k a s')) (rb s')) (hm : behindInMarks op c = false) (hi : Γ[i]? = some (.k a s) := by rfl) :
    CES g a (.Compare b [op] [c] pos) Γ (bnd ra fun y t => bnd (rb t) fun u t => .of (h y u) >>= fun x => .ok (x, t)) := .mk fun F H σ Q E p => by
  obtain ⟨r, h1, h2⟩ := ho
  refine wE_of (pe_cmpR h1 (pe_w _ b) (pe_w _ c) hm) ?_
  refine ha F H σ _ E (p.seq (k := fun y t => rb t >>= fun u => .of (h y u.1) >>= fun x => .ok (x, u.2)) fun y s1 v F1 H1 g1 st1 r1 p1 => ?_)
  refine hb s1 F1 H1 σ _ (E.grS hi g1 st1) (p1.seq (k := fun u t => .of (h y u) >>= fun x => .ok (x, t)) fun u s2 w F2 H2 g2 st2 r2 p2 => ?_)
  exact h2 F2 H2 H1 H2 v w y u Q g2.fh (Rp.mono g2.f r1) r2 (p2.ofV st2)
theorem cgs_un {op : UnaryOp} {h : D → Option D} {ra : R (D × DK)} (ho : UnD g.X (unaryOp op) (rD g.X.K g.C) (rD g.X.K g.C) h) (ha : CES g a b Γ ra) :
    CES g a (.UnaryOp op b pos) Γ (bnd ra fun y t => .of (h y) >>= fun x => .ok (x, t)) := .mk fun F H σ Q E p => by
  obtain ⟨r, h1, h2⟩ := ho
  exact wE_of (pe_un h1 (pe_w _ b)) (ha F H σ _ E (p.seq (k := fun y t => .of (h y) >>= fun x => .ok (x, t)) fun y s1 v F1 H1 g1 st1 r1 p1 => h2 F1 H1 H v y Q g1.fh r1 (p1.ofV st1)))
/-- things[e], the things data that is read now or a list -/
theorem cgs_ix {β : Type} (i : Nat) {ρ1 : Rep V β} {h : β → D → Option D} {ra : R β} {rb : R (D × DK)} (ho : IxD g.X ρ1 (rD g.X.K g.C) (rD g.X.K g.C) h) (ha : CG g ρ1 b Γ ra) (hb : CES g a c Γ rb)
    (hk : ∀ {H0 F H F' H' : Hp} {v : V} {x : β}, GrS a F H F' H' → StA g.X.K g.C F H a s → ρ1.r H0 F H v x → ρ1.r H0 F' H' v x) (hi : Γ[i]? = some (.k a s) := by rfl) (hs : PlainIx c := by exact fun _ _ => rfl) :
    CES g a (.Subscript b c pos) Γ (ra >>= fun x => bnd rb fun u t => .of (h x u) >>= fun y => .ok (y, t)) := .mk fun F H σ Q E p => by
  obtain ⟨r, h1, h2⟩ := ho
  refine wE_of (pe_ix h1 (pe_w _ b) (pe_w _ c) hs) (ha F H σ _ E (p.pure (E.stA hi) fun x v F1 H1 g1 r1 st1 p1 => ?_))
  refine hb F1 H1 σ _ (E.grow g1) (p1.seq (k := fun u t => .of (h x u) >>= fun y => .ok (y, t)) fun u s2 w F2 H2 g2 st2 r2 p2 => ?_)
  exact h2 F2 H2 H H1 v w x u Q g2.fh (hk g2 st1 r1) r2 (p2.ofV st2)
theorem rD_s {K : PySem.W.Frag} {C : Ctab} {H0 F H F' H' : Hp} {v : V} {x : D} (gr : GrS a F H F' H') (_ : StA K C F H a s) (r : (rD K C).r H0 F H v x) : (rD K C).r H0 F' H' v x := Rp.mono gr.f r
theorem StA.list {K : PySem.W.Frag} {C : Ctab} {F H : Hp} (st : StA K C F H a s) {p : Addr} {vs : List V} (h : H p = some (HO.lst vs)) : p ≠ a := fun z => by
  obtain ⟨hf, ws, hh, _⟩ := st
  subst z
  rw [hh] at h
  cases h
theorem rM_s {K : PySem.W.Frag} {C : Ctab} {H0 F H F' H' : Hp} {v : V} {x : List D} (gr : GrS a F H F' H') (st : StA K C F H a s) (r : (rM K C).r H0 F H v x) : (rM K C).r H0 F' H' v x := by
  obtain ⟨p, vs, e, h, r⟩ := r
  exact ⟨p, vs, e, gr.keep (st.list h) h, r.mono gr.f⟩
theorem rN_s {K : PySem.W.Frag} {C : Ctab} {H0 F H F' H' : Hp} {v : V} {x : List D} (gr : GrS a F H F' H') (st : StA K C F H a s) (r : (rN K C).r H0 F H v x) : (rN K C).r H0 F' H' v x := by
  obtain ⟨p, vs, e, h0, hf, h, r⟩ := r
  exact ⟨p, vs, e, h0, gr.n _ _ h hf, gr.keep (st.list h) h, r.mono gr.f⟩
/-- the list xs + e with the state on one side -/
theorem cgs_bin2 {α β : Type} {op : Operator} {ρ1 : Rep V α} {ρ2 : Rep V β} {γ : Type} {ρ : Rep V γ} (i : Nat) {h : α → β → Option γ} {ra : R α} {rb : R (β × DK)} (ho : OpD g.X (binaryOp op) ρ1 ρ2 ρ h) (ha : CG g ρ1 b Γ ra) (hb : CGS g ρ2 a c Γ rb)
    (hk : ∀ {H0 F H F' H' : Hp} {v : V} {x : α}, GrS a F H F' H' → StA g.X.K g.C F H a s → ρ1.r H0 F H v x → ρ1.r H0 F' H' v x) (hi : Γ[i]? = some (.k a s) := by rfl) :
    CGS g ρ a (.BinOp b op c pos) Γ (ra >>= fun x => bnd rb fun u t => .of (h x u) >>= fun y => .ok (y, t)) := .mk fun F H σ Q E p => by
  obtain ⟨r, h1, h2⟩ := ho
  refine wE_of (pe_op h1 (pe_w _ b) (pe_w _ c)) (ha F H σ _ E (p.pure (E.stA hi) fun x v F1 H1 g1 r1 st1 p1 => ?_))
  refine hb F1 H1 σ _ (E.grow g1) (p1.seq (k := fun u t => .of (h x u) >>= fun y => .ok (y, t)) fun u s2 w F2 H2 g2 st2 r2 p2 => ?_)
  exact h2 F2 H2 H H1 v w x u Q g2.fh (hk g2 st1 r1) r2 (p2.ofV st2)
/-- tests -/
theorem cts_val {r : R (D × DK)} (h : CES g a e Γ r) (he : ∀ whole, isTrue e g.X.env whole = (do let v ← whole; standAt e.pos; holding [v] (truthy v)) := by intro _; rfl) : CTS g a e Γ (bnd r fun x t => .of x.asB >>= fun k => .ok (k, t)) := .mk fun F H σ Q E p =>
  wT_of (pt_val (pe_w _ e) he) (h F H σ _ E (p.seq (k := fun x t => .of x.asB >>= fun k => .ok (k, t)) fun x s1 v F1 H1 g1 st1 r1 p1 => by
    cases x with
    | bl b =>
      cases r1 with
      | bl b => exact ⟨b, rfl, p1.here g1.fh st1 rfl⟩
    | _ => exact (show False from p1).elim))
theorem cts_cmp (i : Nat) {op : CmpOp} {h : D → D → Option D} {ra : R (D × DK)} {rb : DK → R (D × DK)} (ho : OpD g.X (compareOp op) (rD g.X.K g.C) (rD g.X.K g.C) (rD g.X.K g.C) h) (ha : CES g a b Γ ra) (hb : ∀ s', CES g a c (Γ.set i (.k a s')) (rb s')) (hm : behindInMarks op c = false) (hi : Γ[i]? = some (.k a s) := by rfl) :
    CTS g a (.Compare b [op] [c] pos) Γ (bnd ra fun y t => bnd (rb t) fun u t => .of (h y u) >>= fun x => .of x.asB >>= fun k => .ok (k, t)) := .mk fun F H σ Q E p => by
  obtain ⟨r, h1, h2⟩ := ho
  refine wT_of (pt_cmpR h1 (pe_w _ b) (pe_w _ c) hm) ?_
  refine ha F H σ _ E (p.seq (k := fun y t => rb t >>= fun u => .of (h y u.1) >>= fun x => .of x.asB >>= fun k => .ok (k, u.2)) fun y s1 v F1 H1 g1 st1 r1 p1 => ?_)
  refine hb s1 F1 H1 σ _ (E.grS hi g1 st1) (p1.seq (k := fun u t => .of (h y u) >>= fun x => .of x.asB >>= fun k => .ok (k, t)) fun u s2 w F2 H2 g2 st2 r2 p2 => ?_)
  refine h2 F2 H2 H1 H2 v w y u _ g2.fh (Rp.mono g2.f r1) r2 ?_
  cases q : h y u with
  | none =>
    rw [q] at p2
    exact p2
  | some d =>
    rw [q] at p2
    intro z F3 H3 g3 r3
    have p3 : PostT g rB a F2 H2 σ Q (R.of d.asB >>= fun k => .ok (k, s2)) := p2
    cases d with
    | bl k =>
      cases r3 with
      | bl k => exact ⟨k, rfl, (p3.mono (GrS.of g3) (st2.gr g3)).here g3.fh (st2.gr g3) rfl⟩
    | _ => exact (show False from p3).elim
theorem cts_not {r : R (Bool × DK)} (h : CTS g a e Γ r) : CTS g a (.UnaryOp .Not e pos) Γ (bnd r fun x t => .ok (!x, t)) := .mk fun F H σ Q E p =>
  wT_of (pt_not (pt_w _ e)) (h F H σ _ E (p.seq (k := fun x t => .ok (!x, t)) fun x s1 v F1 H1 g1 st1 r1 p1 => by
    have q : v = x := r1
    subst q
    exact p1.here g1.fh st1 rfl))
theorem cws_and1 {r : R (Bool × DK)} (h : CTS g a b Γ r) : CWS g a (.BoolOp .And [b] pos) Γ r := .mk fun F H σ Q E p => wW_of (pw_and1 (pt_w _ b)) (h F H σ Q E p)
theorem cws_or1 {r : R (Bool × DK)} (h : CTS g a b Γ r) : CWS g a (.BoolOp .Or [b] pos) Γ r := .mk fun F H σ Q E p => wW_of (pw_or1 (pt_w _ b)) (h F H σ Q E p)
theorem cws_and (i : Nat) {rest : List Expr} {r : R (Bool × DK)} {r2 : DK → R (Bool × DK)} (h : CTS g a b Γ r) (h2 : ∀ s', CWS g a (.BoolOp .And (c :: rest) pos) (Γ.set i (.k a s')) (r2 s')) (hi : Γ[i]? = some (.k a s) := by rfl) :
    CWS g a (.BoolOp .And (b :: c :: rest) pos) Γ (bnd r fun x t => if x = true then r2 t else .ok (false, t)) := .mk fun F H σ Q E p =>
  wW_of (pw_and (pt_w _ b) (pw_w _ _)) (h F H σ _ E (p.seq (k := fun x t => if x = true then r2 t else .ok (false, t)) fun x s1 v F1 H1 g1 st1 r1 p1 => by
    have q : v = x := r1
    subst q
    cases v with
    | true => exact h2 s1 F1 H1 σ Q (E.grS hi g1 st1) p1
    | false => exact p1.here g1.fh st1 rfl))
theorem cws_or (i : Nat) {rest : List Expr} {r : R (Bool × DK)} {r2 : DK → R (Bool × DK)} (h : CTS g a b Γ r) (h2 : ∀ s', CWS g a (.BoolOp .Or (c :: rest) pos) (Γ.set i (.k a s')) (r2 s')) (hi : Γ[i]? = some (.k a s) := by rfl) :
    CWS g a (.BoolOp .Or (b :: c :: rest) pos) Γ (bnd r fun x t => if x = true then .ok (true, t) else r2 t) := .mk fun F H σ Q E p =>
  wW_of (pw_or (pt_w _ b) (pw_w _ _)) (h F H σ _ E (p.seq (k := fun x t => if x = true then .ok (true, t) else r2 t) fun x s1 v F1 H1 g1 st1 r1 p1 => by
    have q : v = x := r1
    subst q
    cases v with
    | true => exact p1.here g1.fh st1 rfl
    | false => exact h2 s1 F1 H1 σ Q (E.grS hi g1 st1) p1))
theorem CWS.t {r : R (Bool × DK)} (h : CWS g a e Γ r) : CTS g a e Γ r := .mk fun F H σ Q E p => wT_of (pw_w _ e).pt (h F H σ Q E p)
theorem cgs_if {β : Type} {ρ : Rep V β} (i : Nat) {rc : R (Bool × DK)} {ra rb : DK → R (β × DK)} (hc : CTS g a c Γ rc) (ha : ∀ s', CGS g ρ a b (Γ.set i (.k a s')) (ra s')) (hb : ∀ s', CGS g ρ a e (Γ.set i (.k a s')) (rb s')) (hi : Γ[i]? = some (.k a s) := by rfl) :
    CGS g ρ a (.IfExp c b e pos) Γ (bnd rc fun x t => if x = true then ra t else rb t) := .mk fun F H σ Q E p =>
  wE_of (pe_ifExp (pt_w _ c) (pe_w _ b) (pe_w _ e)) (hc F H σ _ E (p.seq (k := fun x t => if x = true then ra t else rb t) fun x s1 v F1 H1 g1 st1 r1 p1 => by
    obtain rfl : v = x := r1
    cases v with
    | true => exact ha s1 F1 H1 σ Q (E.grS hi g1 st1) p1
    | false => exact hb s1 F1 H1 σ Q (E.grS hi g1 st1) p1))
/-- arguments, tuples, lists -/
theorem cas_nil (i : Nat) (hi : Γ[i]? = some (.k a s) := by rfl) : CAS g a [] Γ (.ok ([], s)) := .mk fun F H σ Q E p => wA_of pa_nil (p.here E.ef (E.stA hi) .nil)
theorem cas_cons (i : Nat) {ra : R (D × DK)} {rs : DK → R (List D × DK)} (ha : CES g a b Γ ra) (hs : ∀ s', CAS g a es (Γ.set i (.k a s')) (rs s')) (hi : Γ[i]? = some (.k a s) := by rfl) (hst : starEach (b :: es) g.X.env = (false, eval b g.X.env) :: starEach es g.X.env := by rfl) :
    CAS g a (b :: es) Γ (bnd ra fun x t => bnd (rs t) fun xs t => .ok (x :: xs, t)) := .mk fun F H σ Q E p =>
  wA_of (pa_cons (pe_w _ b) (pa_w _ es) hst) (ha F H σ _ E (p.seq (k := fun x t => rs t >>= fun u => .ok (x :: u.1, u.2)) fun x s1 v F1 H1 g1 st1 r1 p1 => hs s1 F1 H1 σ _ (E.grS hi g1 st1) (p1.seq (k := fun xs t => .ok (x :: xs, t)) fun xs s2 vs F2 H2 g2 st2 r2 p2 => p2.here g2.fh st2 (.cons (Rp.mono g2.f r1) r2))))
theorem ces_tupA {x1 : Nat} {r : R (List D × DK)} (h : CAS g a es Γ r) (hl : decide (es.length ≤ 100000) = true := by rfl) : CES g a (.Tuple es x1 pos) Γ (bnd r fun xs t => if xs.length ≤ lim then .ok (D.tup xs, t) else .un) := .mk fun F H σ Q E p =>
  wE_of (pe_tup (pa_w _ es)) (h F H σ _ E (p.seq (k := fun xs t => if xs.length ≤ lim then .ok (D.tup xs, t) else .un) fun xs s1 vs F1 H1 g1 st1 r1 p1 => by
    split at p1
    · rename_i hl
      refine ⟨by rw [RpA.length r1]; exact lim_line hl, fun q hq => ?_⟩
      have gr : Gr F1 H1 (upd F1 q (.tup vs)) (upd H1 q (.tup vs)) := Gr.alloc g1.fh hq
      exact p1 _ _ _ (GrS.of gr) (st1.gr gr) (.tup (SqT.of upd_same) (RpA.mono gr.f r1))
    · exact (show False from p1).elim))
theorem cns_lstA {r : R (List D × DK)} (h : CAS g a es Γ r) : CNS g a (.List es pos) Γ (bnd r fun xs t => if xs.length ≤ lim then .ok (xs, t) else .un) := .mk fun F H σ Q E p =>
  wE_of (pe_lst (pa_w _ es)) (h F H σ _ E (p.seq (k := fun xs t => if xs.length ≤ lim then .ok (xs, t) else .un) fun xs s1 vs F1 H1 g1 st1 r1 p1 => by
    split at p1
    · rename_i hl
      refine ⟨by rw [RpA.length r1]; exact lim_line hl, fun q hq => ?_⟩
      have gr : Gr F1 H1 F1 (upd H1 q (.lst vs)) := Gr.own g1.fh hq
      exact p1 _ _ _ (GrS.of gr) (st1.gr gr) ⟨q, vs, rfl, hq, g1.fh.back hq, upd_same, r1⟩
    · exact (show False from p1).elim))
end
end DL
end
section
set_option Elab.async false
set_option linter.all false
set_option maxRecDepth 100000
set_option maxHeartbeats 2000000
set_option autoImplicit false
namespace DL
open PySem PySem.Spec PyProof.Rows L2
variable [TN]

/-! ## what is walked, with the state -/
def PostIT (g : G) (a : Addr) (F H : Hp) (σ : L2.St) (Rr : It → Hp → Prop) : R (List D × DK) → Prop
  | .ok (xs, s) => ∀ J F' H', GrS a F H F' H' → StA g.X.K g.C F' H' a s → Wlk g.X.K g.C F' J xs → Rr J H'
  | .ex c x => ∀ cl dx F' H', GrX a F H F' H' → ExR g.X.K g.C F' cl dx c x → g.W cl (some dx) σ H'
  | .un => False
structure CIS (g : G) (a : Addr) (tg iter : Expr) (Γ : List Sl) (r : R (List D × DK))  : Prop where
  h : ∀ F H σ Rr, g.Env F H σ Γ → PostIT g a F H σ Rr r → wI g.X tg iter σ H Rr
instance (g : G) (a : Addr) (tg iter : Expr) (Γ : List Sl) (r : R (List D × DK))  : CoeFun (CIS g a tg iter Γ r) (fun _ => ∀ F H σ Rr, g.Env F H σ Γ → PostIT g a F H σ Rr r → wI g.X tg iter σ H Rr) := ⟨CIS.h⟩
theorem PostIT.seq {α β : Type} {g : G} {ρ : Rep β α} {a : Addr} {F H : Hp} {σ : L2.St} {Rr : It → Hp → Prop} {Q : β → Hp → Prop} {r : R (α × DK)} {k : α → DK → R (List D × DK)} (h : PostIT g a F H σ Rr (bnd r k))
    (go : ∀ x s b F1 H1, GrS a F H F1 H1 → StA g.X.K g.C F1 H1 a s → ρ.r H F1 H1 b x → PostIT g a F1 H1 σ Rr (k x s) → Q b H1) : PostT g ρ a F H σ Q r := by
  cases r with
  | ok x =>
    obtain ⟨x, s⟩ := x
    intro b F1 H1 g1 st r1
    obtain ⟨u, hu⟩ := st.there
    refine go x s b F1 H1 g1 st r1 ?_
    have h' : PostIT g a F H σ Rr (k x s) := h
    cases q : k x s with
    | ok y =>
      rw [q] at h'
      exact fun J F' H' g' st' w => h' J F' H' (GrS.trans hu g1 g') st' w
    | ex c y =>
      rw [q] at h'
      exact fun cl dx F' H' g' r => h' cl dx F' H' (GrS.transX g1 g') r
    | un =>
      rw [q] at h'
      exact h'
  | ex c x => exact h
  | un => exact (show False from h).elim
section
variable {T S : Type} {g : G} {ζ : Ret T} {Γ : List Sl} {γ : S → List Sl} {c e tg iter b : Expr} {body sts A B : List Stmt} {pos p1 p2 : Pos} {a : Addr} {s : DK}
theorem CI.st (i : Nat) {r : R (List D)} (h : CI g tg e Γ r) (hi : Γ[i]? = some (.k a s) := by rfl) : CIS g a tg e Γ (r >>= fun xs => .ok (xs, s)) := .mk fun F H σ Rr E p => h F H σ Rr E (by
  have st := E.stA hi
  cases r with
  | ok x => exact fun J F' H' gr w => p J F' H' (GrS.of gr) (st.gr gr) w
  | ex c x => exact fun cl dx F' H' gr er => p cl dx F' H' (GrX.of gr) er
  | un => exact p)
theorem cis_range1 {r : R (D × DK)} (h : CES g a b Γ r) (hm : g.X.mg "range" = none) (hg : Gl g.X "range" := by rfl) (h1 : starEach [b] g.X.env = [(false, eval b g.X.env)] := by rfl) :
    CIS g a tg (.Call (.Name "range" p1) [b] [] pos) Γ (bnd r fun x t => .of (range1 x) >>= fun xs => .ok (xs, t)) := .mk fun F H σ Rr E p => by
  refine wI_of (pi_range1 hg hm (pa_cons (pe_w _ b) pa_nil h1) h1) ?_
  refine h F H σ _ E (PostIT.seq (k := fun x t => R.of (range1 x) >>= fun xs => .ok (xs, t)) p fun x s1 v F1 H1 g1 st1 r1 p1 => ?_)
  cases x <;> try (exact (show False from p1).elim)
  rename_i j
  unfold range1 at p1
  dsimp only at p1
  split at p1
  · rename_i ok
    have ok' := of_decide_eq_true ok
    refine ⟨j, by rw [int_of r1], by omega, by omega, ?_⟩
    exact p1 _ F1 H1 (GrS.of (Gr.refl g1.fh)) st1 (wlk_range 0 j.toNat)
  · exact (show False from p1).elim
theorem cis_data {r : R (D × DK)} (h : CES g a e Γ r) : CIS g a tg e Γ (bnd r fun x t => .of x.items >>= fun xs => .ok (xs, t)) := .mk fun F H σ Rr E p => by
  refine wI_of (PI.or (pi_tup (pe_w _ e)) (PI.or (pi_list (pe_w _ e)) (pi_str (pe_w _ e)))) ?_
  cases r with
  | un => exact .inl (h F H σ _ E p)
  | ex c x => exact .inl (h F H σ _ E p)
  | ok z =>
    obtain ⟨x, t⟩ := z
    cases x with
    | tup l => exact .inl (h F H σ _ E fun v F1 H1 g1 st1 r1 => by
        cases r1 with
        | tup h1 a1 => exact ⟨_, rfl, ⟨_, ex_t g1.fh h1⟩, p _ F1 H1 g1 st1 (wlk_tup h1 a1)⟩)
    | lst l => exact .inr (.inl (h F H σ _ E fun v F1 H1 g1 st1 r1 => by
        cases r1 with
        | lst h1 a1 => exact ⟨_, rfl, ⟨_, SqL.of (g1.fh.at h1)⟩, p _ F1 H1 g1 st1 (wlk_lst (SqL.of h1) a1)⟩))
    | str z => exact .inr (.inr (h F H σ _ E fun v F1 H1 g1 st1 r1 => ⟨z, str_of r1, p _ F1 H1 g1 st1 (wlk_str z)⟩))
    | _ => exact (show False from p).elim
/-- a for whose things are made with the state -/
theorem cs_forPS (i : Nat) {f : S → D → R (Fl T S)} {rx : R (List D × DK)} (hi : CIS g a tg iter Γ rx) (s0 : DK → S) (hΓ : ∀ s', Wk (Γ.set i (.k a s')) (γ (s0 s'))) (hb : ∀ s x, f s x = .un ∨ ∃ Γ', CP g tg (γ s) Γ' x ∧ CB g ζ γ body Γ' (f s x)) (hp : PassesOwn (model g.X.prog g.X.w) g.X.A g.X.env g.X.xe) (hc : g.X.calm = true)
    (hk : Γ[i]? = some (.k a s) := by rfl) (hs : ∀ x, foldedSetIterable iter g.X.env x = pure x := by intro _; rfl) : CS g ζ γ (.For tg iter body [] pos) Γ (bnd rx fun xs t => forD f xs (s0 t)) := .mk fun F H σ Dn E p => by
  refine wS_of (ps_for hp hc (pi_w _ tg iter) (pg_w _ tg) (pss_w _ body) hs) ?_
  refine hi F H σ _ E ?_
  cases rx with
  | un => exact p
  | ex c x => exact fun cl dx F' H' gr er => p cl dx σ F' H' (E.basS hk gr) er
  | ok z =>
    obtain ⟨xs, s1⟩ := z
    intro J F1 H1 g1 st1 wk
    have E1 : g.Env F1 H1 σ (Γ.set i (.k a s1)) := E.grS hk g1 st1
    have p' : PostS g ζ γ Dn F (forD f xs (s0 s1)) := p
    refine ⟨fun k m σ2 H2 => m = xs.length - k ∧ ∃ s F2, Ex F1 F2 ∧ g.Env F2 H2 σ2 (γ s) ∧ PostS g ζ γ Dn F2 (forD f (xs.drop k) s), ⟨xs.length, rfl, s0 s1, F1, Ex.refl _, E1.weak (hΓ s1), by rw [List.drop_zero]; exact p'.mono g1.f⟩, ?_⟩
    rintro k m σ2 H2 ⟨rfl, s, F2, e2, E2, p2⟩
    obtain ⟨w1, w2⟩ := wk k F2 H2 e2 E2.ef
    cases q : xs[k]? with
    | none =>
      have hl : xs.length ≤ k := List.getElem?_eq_none_iff.mp q
      rw [List.drop_eq_nil_of_le hl] at p2
      exact .inl ⟨w1 hl, p2 σ2 F2 H2 (Ex.refl _) E2⟩
    | some x =>
      obtain ⟨hk, ex⟩ := List.getElem?_eq_some_iff.mp q
      obtain ⟨go, y⟩ := w2 x q
      rw [List.drop_eq_getElem_cons hk, ex] at p2
      refine .inr ⟨go, fun σ' H' => ∃ s F2, Ex F1 F2 ∧ g.Env F2 H' σ' (γ s) ∧ PostS g ζ γ Dn F2 (forD f (xs.drop (k + 1)) s), fun σ' H' n => ⟨xs.length - (k + 1), by omega, rfl, n⟩, fun v H3 hy => ?_⟩
      obtain ⟨F3, g3, r3⟩ := y v H3 hy
      have p3 : PostS g ζ γ Dn F2 (M.seq (f s x) (forD f (xs.drop (k + 1)))) := p2
      rcases hb s x with hu | ⟨Γ', hcp, hcb⟩
      · rw [hu] at p3
        exact (show False from p3).elim
      · intro pins s' u I ru
        exact hcp F3 H3 σ2 v _ (E2.grow g3) r3 (fun σ' E' => hcb F3 H3 σ' _ E' ((p3.mono g3.f).seq fun s2 σ4 F4 H4 e4 E4 p4 => ⟨s2, F4, e2.trans (g3.f.trans e4), E4, p4⟩)) pins s' u I ru
theorem cs_forS (i j : Nat) {n : Str} {f : S → D → R (Fl T S)} {rx : R (List D × DK)} (s0 : DK → S) (hi : CIS g a (.Name n p1) iter Γ rx) (hΓ : ∀ s', Wk (Γ.set i (.k a s')) (γ (s0 s'))) (hb : ∀ s x, CB g ζ γ body ((γ s).set j (.d x)) (f s x)) (hp : PassesOwn (model g.X.prog g.X.w) g.X.A g.X.env g.X.xe) (hc : g.X.calm = true)
    (nd : g.X.N.Nodup) (hk : Γ[i]? = some (.k a s) := by rfl) (hN : g.X.N[j]? = some n := by rfl) (hx : Loc g.X.env.scope n := by first | exact Or.inl rfl | exact Or.inr rfl) (hf : g.X.fn n = true ∨ g.X.env.scope.names.lookup n = some .local := by first | exact .inl rfl | exact .inr rfl)
    (hs : ∀ x, foldedSetIterable iter g.X.env x = pure x := by intro _; rfl) : CS g ζ γ (.For (.Name n p1) iter body [] pos) Γ (bnd rx fun xs t => forD f xs (s0 t)) :=
  cs_forPS i hi s0 hΓ (fun s x => .inr ⟨_, cp_name j nd hN hx hf, hb s x⟩) hp hc hk hs

/-! ## statements with the state -/
theorem cb_setS (i j : Nat) {n : Str} {r : R (D × DK)} {k : D → DK → R (Fl T S)} (h : CES g a e Γ r) (h2 : ∀ x s', CB g ζ γ sts ((Γ.set i (.k a s')).set j (.d x)) (k x s')) (nd : g.X.N.Nodup) (hk : Γ[i]? = some (.k a s) := by rfl) (hi : g.X.N[j]? = some n := by rfl) (hx : Loc g.X.env.scope n := by first | exact Or.inl rfl | exact Or.inr rfl)
    (hf : g.X.fn n = true ∨ g.X.env.scope.names.lookup n = some .local := by first | exact .inl rfl | exact .inr rfl) (hs : swapsWith e (some (.Name n p1)) pos.line g.X.env = pure false := by rfl) :
    CB g ζ γ (.Assign [.Name n p1] e pos :: sts) Γ (bnd r k) := .mk fun F H σ Dn E p =>
  wB_of (pss_cons (ps_set nd hi hx (pe_w _ e) hs hf) (pss_w _ sts)) (h F H σ _ E (PostS.exprT hk E p fun x s' v F1 H1 g1 r1 E1 p' => h2 x s' F1 H1 _ _ (E1.set_d j r1) p'))
theorem cb_setNS (i j : Nat) {n : Str} {r : R (List D × DK)} {k : List D → DK → R (Fl T S)} (h : CNS g a e Γ r) (h2 : ∀ x s', CB g ζ γ sts ((Γ.set i (.k a s')).set j (.l x)) (k x s')) (nd : g.X.N.Nodup) (hk : Γ[i]? = some (.k a s) := by rfl) (hi : g.X.N[j]? = some n := by rfl) (hx : Loc g.X.env.scope n := by first | exact Or.inl rfl | exact Or.inr rfl)
    (hf : g.X.fn n = true ∨ g.X.env.scope.names.lookup n = some .local := by first | exact .inl rfl | exact .inr rfl) (hs : swapsWith e (some (.Name n p1)) pos.line g.X.env = pure false := by rfl) :
    CB g ζ γ (.Assign [.Name n p1] e pos :: sts) Γ (bnd r k) := .mk fun F H σ Dn E p =>
  wB_of (pss_cons (ps_set nd hi hx (pe_w _ e) hs hf) (pss_w _ sts)) (h F H σ _ E (PostS.exprT hk E p fun x s' v F1 H1 g1 r1 E1 p' => by
    obtain ⟨q, vs, rfl, h0, hf, hh, ra⟩ := r1
    refine h2 x s' F1 H1 _ _ (E1.set_own j ⟨q, vs, rfl, E.eb.back h0, hf, hh, ra⟩ fun m t _ em ow hs => ?_) p'
    have old : ∃ t', Γ[m]? = some t' ∧ t'.isOwn = true := by
      by_cases z : i = m
      · exact ⟨_, by rw [← z]; exact hk, rfl⟩
      · rw [List.getElem?_set_ne z] at em
        exact ⟨t, em, ow⟩
    obtain ⟨t', em', ow'⟩ := old
    obtain ⟨⟨o, q1, _⟩, _⟩ := EnvOk.own_at E em' ow' hs
    rw [h0] at q1
    cases q1))
theorem cb_exprS (i : Nat) {α : Type} {ρ : Rep V α} {r : R (α × DK)} {k : α → DK → R (Fl T S)} (h : CGS g ρ a e Γ r) (h2 : ∀ x s', CB g ζ γ sts (Γ.set i (.k a s')) (k x s')) (hk : Γ[i]? = some (.k a s) := by rfl) (hs : swapsWith e none pos.line g.X.env = pure false := by rfl) :
    CB g ζ γ (.Expr e pos :: sts) Γ (bnd r k) := .mk fun F H σ Dn E p =>
  wB_of (pss_cons (ps_expr (pe_w _ e) hs) (pss_w _ sts)) (h F H σ _ E (PostS.exprT hk E p fun x s' v F1 H1 g1 r1 E1 p' => h2 x s' F1 H1 _ _ E1 p'))
theorem cs_ifS (i : Nat) {r : R (Bool × DK)} {ra rb : DK → R (Fl T S)} (h : CTS g a e Γ r) (ha : ∀ s', CB g ζ γ A (Γ.set i (.k a s')) (ra s')) (hb : ∀ s', CB g ζ γ B (Γ.set i (.k a s')) (rb s')) (hk : Γ[i]? = some (.k a s) := by rfl) :
    CS g ζ γ (.If e A B pos) Γ (bnd r fun x t => if x = true then ra t else rb t) := .mk fun F H σ Dn E p =>
  wS_of (ps_if (pt_w _ e) (pss_w _ A) (pss_w _ B)) (h F H σ _ E (PostS.exprT (k := fun x t => if x = true then ra t else rb t) hk E p fun x s' v F1 H1 g1 r1 E1 p' => by
    obtain rfl : v = x := r1
    cases v with
    | true => exact ha s' F1 H1 σ Dn E1 p'
    | false => exact hb s' F1 H1 σ Dn E1 p'))
/-- what a def that changes the state returns: data, the state there -/
def ζS (K : PySem.W.Frag) (C : Ctab) (a : Addr) : Ret (D × DK) := ⟨fun F H v d => Rp K C F v d.1 ∧ StA K C F H a d.2⟩
theorem cb_retS (i : Nat) {γ : S → List Sl} {r : R (D × DK)} (h : CES g a e Γ r) (hk : Γ[i]? = some (.k a s) := by rfl) : CB g (ζS g.X.K g.C a) γ (.Return (some e) pos :: sts) Γ (bnd r fun x t => .ok (.rt (x, t))) := .mk fun F H σ Dn E p =>
  wB_of (pss_cons (ps_ret (pe_w _ e)) (pss_w _ sts)) (h F H σ _ E (PostS.exprT (k := fun x t => .ok (.rt (x, t))) hk E p fun x s' v F1 H1 g1 r1 E1 p' => p' v F1 H1 E1.toBas ⟨r1, E1.stA (i := i) (by
    have hl : i < Γ.length := (List.getElem?_eq_some_iff.mp hk).1
    rw [List.getElem?_set_self hl])⟩))
end

/-! ## defs that change the state: the state is the first argument -/
def PostDS (K : PySem.W.Frag) (C : Ctab) (a : Addr) (F H : Hp) (Q : VK) (E : XK) : R (D × DK) → Prop
  | .ok (d, s) => ∀ v F' H', GrS a F H F' H' → StA K C F' H' a s → Rp K C F' v d → Q v H'
  | .ex c x => ∀ cl dx F' H', GrX a F H F' H' → ExR K C F' cl dx c x → E cl (some dx) H'
  | .un => False
def spS (K : PySem.W.Frag) (C : Ctab) (m : DK → List D → R (D × DK)) : Sp := fun vs H Q E => ∃ F a s ws ds, Ex F H ∧ LamX.Tabs TN.T H ∧ vs = .ref a :: ws ∧ StA K C F H a s ∧ RpA K C F ws ds ∧ PostDS K C a F H Q E (m s ds)
section
variable {g : G} {Γ : List Sl} {e b : Expr} {es : List Expr} {pos p1 p2 : Pos} {a : Addr} {s : DK}
/-- the state's name, then arguments -/
theorem wa_state (i : Nat) {n : Str} {r : R (List D × DK)} {F H : Hp} {σ : L2.St} {Q : List V → Hp → Prop} (h : CAS g a es Γ r) (E : g.Env F H σ Γ) (hk : Γ[i]? = some (.k a s)) (hN : g.X.N[i]? = some n)
    (hv : Vis g.X.env.scope n) (hd : (n == ("__debug__" : Str)) = false) (hcd : (n == ("__classdict__" : Str)) = false) (hst : starEach (.Name n p2 :: es) g.X.env = (false, eval (.Name n p2) g.X.env) :: starEach es g.X.env)
    (p : PostT g (rA g.X.K g.C) a F H σ (fun vs H' => Q (.ref a :: vs) H') r) : wA g.X (.Name n p2 :: es) σ H Q := by
  obtain ⟨o, h1, ws, rfl, hb, hf, hh, ra⟩ := E.sl i _ hk
  exact wA_of (pa_cons (pe_var hN hv hd hcd) (pa_w _ es) hst) ⟨_, h1, h F H σ _ E p⟩
/-- f(state, ..) -/
theorem ces_call (i : Nat) {bb : Bool} {k : Nat} {f : Addr} {fd : FuncData} {ps : List Str} {m : DK → List D → R (D × DK)} {x n : Str} {r : R (List D × DK)} {dvs : List V} {ds : List Value} {dds : List D} (Fn : FnG g.X.prog g.X.w g.X.K g.X.mg g.X.base (L2.CX g.X.prog g.X.w) bb k f fd ps (spS g.X.K g.C m)) (hbb : bb = true → g.b = true) (hr : Room k g.X.A)
    (hm : g.X.mg x = some (.ref f)) (hkp : PySem.W.keepIn g.X.K (.ref f) = true) (hb : Binds g.X.K fd ps ds) (hd : Vals dvs ds) (hdd : ∀ F, RpA g.X.K g.C F dvs dds) (ha : CAS g a es Γ r) (hk : Γ[i]? = some (.k a s) := by rfl) (hN : g.X.N[i]? = some n := by rfl) (hg : Gl g.X x := by rfl) (hdb : (x == ("__debug__" : Str)) = false := by decide)
    (hv : Vis g.X.env.scope n := by first | exact Or.inl rfl | exact Or.inr (Or.inl rfl) | exact Or.inr (Or.inr rfl)) (hnd : (n == ("__debug__" : Str)) = false := by decide) (hcd : (n == ("__classdict__" : Str)) = false := by decide)
    (he : starEach (.Name n p2 :: es) g.X.env = (false, eval (.Name n p2) g.X.env) :: starEach es g.X.env := by rfl) (hpl : (backTo pos (starEach es g.X.env)).any (·.1) = false := by rfl) :
    CES g a (.Call (.Name x p1) (.Name n p2 :: es) [] pos) Γ (bnd r fun xs t => m t (xs ++ dds)) := .mk fun F H σ Q E p =>
  wE_of (pe_callG Fn (fun z => g.gd (hbb z)) hr hg hm hkp hb hd g.ps (pa_w _ _) hdb he hpl) (wa_state i ha E hk hN hv hnd hcd he (p.seq (k := fun xs t => m t (xs ++ dds)) fun xs s1 vs F1 H1 g1 st1 r1 p1 =>
    ⟨F1, a, s1, vs ++ dvs, xs ++ dds, g1.fh, g.tabs (E.basS hk g1.x), rfl, st1, RpA.append r1 (hdd F1), by
      cases q : m s1 (xs ++ dds) with
      | ok z =>
        rw [q] at p1
        exact p1
      | ex c z =>
        rw [q] at p1
        exact p1
      | un =>
        rw [q] at p1
        exact p1⟩))
end
def finS : R (Fl (D × DK) DK) → R (D × DK)
  | .ok (.nx s) => .ok (.non, s)
  | .ok (.rt d) => .ok d
  | .ex c x => .ex c x
  | .un => .un
@[simp] theorem finS_nx (s : DK) : finS (.ok (.nx s)) = .ok (.non, s) := rfl
@[simp] theorem finS_rt (d : D × DK) : finS (.ok (.rt d)) = .ok d := rfl
@[simp] theorem finS_ex (c : Str) (d : D) : finS (.ex c d) = .ex c d := rfl
@[simp] theorem finS_un : finS .un = .un := rfl
section
variable {P : Program} {w : World} {K : PySem.W.Frag} {mg : Str → Option Value} {base : Heap} {bb : Bool}
abbrev gOfS (P : Program) (w : World) (K : PySem.W.Frag) (mg : Str → Option Value) (base : Heap) (C : Ctab) (N : List Str) (qual : Str) (scope : Scope) (f : Addr) (cd : Value) (A : Around) (outer : List PySem.Env) (s : Shared) (H : Hp) (E : XK) (F0 : Hp) {bb : Bool} (gd : bb = true → A.guards = some []) (a : Addr) (hT : LamX.Tabs TN.T (del H a)) : G :=
  ⟨cxOf (L2.CX P w) P w K mg base N qual scope f cd A outer s H E, C, fun cl d _ H' => E cl d H', del H a, F0, takes_of rfl rfl rfl rfl, bb, gd, hT⟩
theorem tab_del {C : Ctab} {F H : Hp} {a : Addr} {s : DK} {K : PySem.W.Frag} (h : LamX.Tabs TN.T H) (st : StA K C F H a s) {p : Addr × Str} (hp : p ∈ TN.T) : LamX.TabS (del H a) p.1 p.2 := by
  obtain ⟨hf, ws, hh, ra⟩ := st
  obtain ⟨ps, h1, h2, h3⟩ := h p hp
  refine ⟨ps, ?_, h2, fun pos cv hc => ?_⟩
  · rw [del_ne' (fun z => by
      rw [z, hh] at h1
      cases h1)]
    exact h1
  · obtain ⟨c, e1, e2⟩ := h3 pos cv hc
    refine ⟨c, e1, ?_⟩
    rw [del_ne' (fun z => by
      rw [z, hh] at e2
      have e3 := Option.some.inj e2
      cases e3)]
    exact e2
theorem start_envS {C : Ctab} {F H : Hp} {N : List Str} {vs : List V} {ds : List D} {a : Addr} {s : DK} (e : Ex F H) (st : StA K C F H a s) (r : RpA K C F vs ds) (hl : (V.ref a :: vs).length ≤ N.length) :
    EnvOk K C (del H a) F F H (start N (.ref a :: vs)) (.k a s :: (ds.map Sl.d ++ List.replicate (N.length - (ds.length + 1)) Sl.no)) := by
  have lv := r.length
  obtain ⟨hf, ws, hh, ra⟩ := st
  have tail : ∀ {i : Nat} {t : Sl}, (ds.map Sl.d ++ List.replicate (N.length - (ds.length + 1)) Sl.no)[i]? = some t → t.isOwn = false := fun {i t} h => by
    have hm := List.mem_of_getElem? h
    rcases List.mem_append.mp hm with z | z
    · obtain ⟨d, _, rfl⟩ := List.mem_map.mp z
      rfl
    · obtain ⟨_, rfl⟩ := List.mem_replicate.mp z
      rfl
  have tb : TX (del H a) H := fun _ _ ⟨ps, h1, h2, h3⟩ => by
    have out : ∀ {b : Addr} {o : HO}, del H a b = some o → H b = some o := fun {b o} h => by
      by_cases q : b = a
      · subst q
        rw [del_at] at h
        cases h
      · rw [del_ne' q] at h
        exact h
    exact ⟨ps, out h1, h2, fun pos cv hc => by
      obtain ⟨c, e1, e2⟩ := h3 pos cv hc
      exact ⟨c, e1, out e2⟩⟩
  refine ⟨⟨(Ex.refl H).sub, Ex.refl _, e, fun _ _ _ h => h, tb⟩, by simp [L2.start, lv], fun i t h => ?_, fun i j t u b n e1 e2 o1 o2 h1 h2 => ?_⟩
  · cases i with
    | zero =>
      cases h
      exact ⟨some (.ref a), rfl, ws, rfl, del_at, hf, hh, ra⟩
    | succ i =>
      have h' : (ds.map Sl.d ++ List.replicate (N.length - (ds.length + 1)) Sl.no)[i]? = some t := h
      by_cases hi : i < ds.length
      · rw [List.getElem?_append_left (by simpa using hi), List.getElem?_map] at h'
        cases q : ds[i]? with
        | none =>
          rw [q] at h'
          cases h'
        | some d =>
          rw [q] at h'
          cases h'
          obtain ⟨v, h1, h2⟩ := r.get q
          refine ⟨some v, ?_, v, rfl, h2⟩
          show ((V.ref a :: vs).map some ++ _)[i + 1]? = _
          rw [List.getElem?_append_left (by rw [List.length_map, List.length_cons, lv]; omega), List.getElem?_map]
          show (vs[i]?).map some = _
          rw [h1]
          rfl
      · rw [List.getElem?_append_right (by simpa using hi), List.length_map] at h'
        have h2 : i - ds.length < N.length - (ds.length + 1) := by
          have := (List.getElem?_eq_some_iff.mp h').1
          simpa using this
        rw [List.getElem?_replicate, if_pos h2] at h'
        cases h'
        refine ⟨none, ?_, trivial⟩
        show ((V.ref a :: vs).map some ++ _)[i + 1]? = _
        rw [List.getElem?_append_right (by rw [List.length_map, List.length_cons, lv]; omega), List.length_map, List.length_cons, lv, List.getElem?_replicate, if_pos (by omega)]
  · have z : ∀ {k : Nat} {x : Sl}, (Sl.k a s :: (ds.map Sl.d ++ List.replicate (N.length - (ds.length + 1)) Sl.no))[k]? = some x → x.isOwn = true → k = 0 := fun {k x} hk hx => by
      cases k with
      | zero => rfl
      | succ k =>
        have := tail (i := k) (t := x) hk
        rw [hx] at this
        cases this
    exact n ((z e1 o1).trans (z e2 o2).symm)
theorem fn_dlS {x qual : Str} {params : Arguments} {bd : List Stmt} {scope : Scope} {dvs : List V} {kws : List (Str × V)} {f : Addr} {fd : FuncData} {N ps : List Str} {k n : Nat} {C : Ctab} {m : DK → List D → R (D × DK)} (Fn : FunD K x qual params bd scope dvs kws f fd) (S : FnScope N ps scope) (hn : ps.length = n + 1) (hN : ps.length ≤ N.length) (hm : ∀ s ds, ds.length ≠ n → m s ds = .un)
    (body : ∀ (cdv : Value) (A : Around) (outer : List PySem.Env) (sh : Shared) (H : Hp) (E : XK) (F0 : Hp) (gd : bb = true → A.guards = some []) (hcd : CodeAt K f cdv) (a : Addr) (hT : LamX.Tabs TN.T (del H a)), Room k (gOfS P w K mg base C N qual scope f cdv A outer sh H E F0 gd a hT).X.A → ∀ (s : DK) (ds : List D), ds.length = n →
      ∃ r, m s ds = finS r ∧ CB (gOfS P w K mg base C N qual scope f cdv A outer sh H E F0 gd a hT) (ζS K C a) (fun s : DK => .k a s :: List.replicate (N.length - 1) Sl.no) bd (.k a s :: (ds.map Sl.d ++ List.replicate (N.length - (ds.length + 1)) Sl.no)) r) :
    FnG P w K mg base (L2.CX P w) bb (k + 1) f fd ps (spS K C m) := by
  have len : ∀ vs H Q E, spS K C m vs H Q E → vs.length = ps.length := fun vs H Q E h => by
    obtain ⟨F, a, s, ws, ds, e, _, rfl, st, r, p⟩ := h
    rw [List.length_cons, r.length, hn]
    by_cases hl : ds.length = n
    · rw [hl]
    · rw [hm s ds hl] at p
      exact p.elim
  obtain ⟨oc, od, dV, kV, doc, pm, an, cdv, ct, osl, rfl, lk, hcd, _, _⟩ := Fn.ex
  refine fnG_of lk hcd S len fun A outer sh H vs Q E gd hr h => ?_
  have hl := len _ _ _ _ h
  obtain ⟨F, a, s, ws, ds, e, hT, rfl, st, r, p⟩ := h
  have hd : ds.length = n := by
    rw [List.length_cons, r.length, hn] at hl
    omega
  obtain ⟨rr, em, hb⟩ := body cdv A outer sh H E F gd ⟨_, _, _, _, lk, rfl, _, hcd⟩ a (fun p hp => tab_del hT st hp) hr s ds hd
  refine ⟨_, pss_w _ _, hb F H _ _ (start_envS e st r (by omega)) ?_⟩
  rw [em] at p
  have hf := st.f
  have tx : ∀ {H' : Hp}, TX (del H a) H' → TX H H' := fun {H'} x P q hP => x P q (by
    obtain ⟨hf, ws, hh, ra⟩ := st
    obtain ⟨ps, h1, h2, h3⟩ := hP
    refine ⟨ps, ?_, h2, fun pos cv hc => ?_⟩
    · rw [del_ne' (fun z => by
        rw [z, hh] at h1
        cases h1)]
      exact h1
    · obtain ⟨c, e1, e2⟩ := h3 pos cv hc
      refine ⟨c, e1, ?_⟩
      rw [del_ne' (fun z => by
        rw [z, hh] at e2
        have e3 := Option.some.inj e2
        cases e3)]
      exact e2)
  have fin0 : ∀ {F' H' : Hp}, Bas (del H a) F F' H' → F' a = none → GrS a F H F' H' := fun {F' H'} b hfa => ⟨b.e0, b.eb, b.ef, fun c o h1 h2 => by
    by_cases q : c = a
    · rw [q]
      exact hfa
    · exact b.fr c o (by rw [del_ne' q]; exact h1) h2, tx b.tb⟩
  cases rr with
  | ok fl =>
    cases fl with
    | nx u =>
      intro σ' F' H' x E'
      have st' := E'.stA (i := 0) rfl
      exact p _ F' H' (fin0 E'.toBas st'.f) st' .non
    | rt d => exact fun v F' H' b rv => p v F' H' (fin0 b rv.2.f) rv.2 rv.1
  | ex c z => exact fun cl dx σ' F' H' b er => p cl dx F' H' ⟨b.e0, b.eb, b.ef, fun c o q h1 h2 => b.fr c o (show del H a c = some o from (del_ne' q).trans h1) h2, tx b.tb⟩ er
  | un => exact p
theorem fn_unS {f : Addr} {fd : FuncData} {ps : List Str} {k : Nat} {C : Ctab} {m : DK → List D → R (D × DK)} (h : ∀ s ds, m s ds = .un) : FnG P w K mg base (L2.CX P w) bb k f fd ps (spS K C m) :=
  ⟨fun vs H Q E ⟨F, a, s, ws, ds, _, _, _, _, _, p⟩ => by
    rw [h s ds] at p
    exact p.elim, fun A outer sh H args us vs Q E _ _ _ _ _ ⟨F, a, s, ws, ds, _, _, _, _, _, p⟩ => by
    rw [h s ds] at p
    exact p.elim⟩
def mS0 (m : DK → R (D × DK)) : DK → List D → R (D × DK)
  | s, [] => m s
  | _, _ => .un
def mS1 (m : DK → D → R (D × DK)) : DK → List D → R (D × DK)
  | s, [a] => m s a
  | _, _ => .un
def mS2 (m : DK → D → D → R (D × DK)) : DK → List D → R (D × DK)
  | s, [a, b] => m s a b
  | _, _ => .un
def mS3 (m : DK → D → D → D → R (D × DK)) : DK → List D → R (D × DK)
  | s, [a, b, c] => m s a b c
  | _, _ => .un
def mS4 (m : DK → D → D → D → D → R (D × DK)) : DK → List D → R (D × DK)
  | s, [a, b, c, d] => m s a b c d
  | _, _ => .un
section
variable {x qual : Str} {params : Arguments} {bd : List Stmt} {scope : Scope} {dvs : List V} {kws : List (Str × V)} {f : Addr} {fd : FuncData} {N : List Str} {a0 a1 a2 a3 a4 : Str} {k : Nat} {C : Ctab}
theorem fnS0 {m : DK → R (D × DK)} {mb : DK → R (Fl (D × DK) DK)} (em : ∀ s, m s = finS (mb s)) (Fn : FunD K x qual params bd scope dvs kws f fd) (S : FnScope N [a0] scope) (hN : ([a0] : List Str).length ≤ N.length)
    (body : ∀ (cdv : Value) (A : Around) (outer : List PySem.Env) (sh : Shared) (H : Hp) (E : XK) (F0 : Hp) (gd : bb = true → A.guards = some []) (hcd : CodeAt K f cdv) (ad : Addr) (hT : LamX.Tabs TN.T (del H ad)), Room k (gOfS P w K mg base C N qual scope f cdv A outer sh H E F0 gd ad hT).X.A → ∀ (s : DK),
      CB (gOfS P w K mg base C N qual scope f cdv A outer sh H E F0 gd ad hT) (ζS K C ad) (fun s : DK => .k ad s :: List.replicate (N.length - 1) Sl.no) bd (.k ad s :: ([] ++ List.replicate (N.length - 1) Sl.no)) (mb s)) :
    FnG P w K mg base (L2.CX P w) bb (k + 1) f fd [a0] (spS K C (mS0 m)) := fn_dlS Fn S (n := 0) rfl hN (fun s ds h => match ds, h with
      | [], h => absurd rfl h
      | _ :: _, _ => rfl) fun cdv A outer sh H E F0 gd hcd ad hT hr s ds hl => match ds, hl with
      | [], _ => ⟨_, em s, body cdv A outer sh H E F0 gd hcd ad hT hr s⟩
theorem fnS1 {m : DK → D → R (D × DK)} {mb : DK → D → R (Fl (D × DK) DK)} (em : ∀ s a, m s a = finS (mb s a)) (Fn : FunD K x qual params bd scope dvs kws f fd) (S : FnScope N [a0, a1] scope) (hN : ([a0, a1] : List Str).length ≤ N.length)
    (body : ∀ (cdv : Value) (A : Around) (outer : List PySem.Env) (sh : Shared) (H : Hp) (E : XK) (F0 : Hp) (gd : bb = true → A.guards = some []) (hcd : CodeAt K f cdv) (ad : Addr) (hT : LamX.Tabs TN.T (del H ad)), Room k (gOfS P w K mg base C N qual scope f cdv A outer sh H E F0 gd ad hT).X.A → ∀ (s : DK) (a : D),
      CB (gOfS P w K mg base C N qual scope f cdv A outer sh H E F0 gd ad hT) (ζS K C ad) (fun s : DK => .k ad s :: List.replicate (N.length - 1) Sl.no) bd (.k ad s :: ([Sl.d a] ++ List.replicate (N.length - 2) Sl.no)) (mb s a)) :
    FnG P w K mg base (L2.CX P w) bb (k + 1) f fd [a0, a1] (spS K C (mS1 m)) := fn_dlS Fn S (n := 1) rfl hN (fun s ds h => match ds, h with
      | [], _ => rfl
      | [_], h => absurd rfl h
      | _ :: _ :: _, _ => rfl) fun cdv A outer sh H E F0 gd hcd ad hT hr s ds hl => match ds, hl with
      | [a], _ => ⟨_, em s a, body cdv A outer sh H E F0 gd hcd ad hT hr s a⟩
theorem fnS2 {m : DK → D → D → R (D × DK)} {mb : DK → D → D → R (Fl (D × DK) DK)} (em : ∀ s a b, m s a b = finS (mb s a b)) (Fn : FunD K x qual params bd scope dvs kws f fd) (S : FnScope N [a0, a1, a2] scope) (hN : ([a0, a1, a2] : List Str).length ≤ N.length)
    (body : ∀ (cdv : Value) (A : Around) (outer : List PySem.Env) (sh : Shared) (H : Hp) (E : XK) (F0 : Hp) (gd : bb = true → A.guards = some []) (hcd : CodeAt K f cdv) (ad : Addr) (hT : LamX.Tabs TN.T (del H ad)), Room k (gOfS P w K mg base C N qual scope f cdv A outer sh H E F0 gd ad hT).X.A → ∀ (s : DK) (a b : D),
      CB (gOfS P w K mg base C N qual scope f cdv A outer sh H E F0 gd ad hT) (ζS K C ad) (fun s : DK => .k ad s :: List.replicate (N.length - 1) Sl.no) bd (.k ad s :: ([Sl.d a, Sl.d b] ++ List.replicate (N.length - 3) Sl.no)) (mb s a b)) :
    FnG P w K mg base (L2.CX P w) bb (k + 1) f fd [a0, a1, a2] (spS K C (mS2 m)) := fn_dlS Fn S (n := 2) rfl hN (fun s ds h => match ds, h with
      | [], _ => rfl
      | [_], _ => rfl
      | [_, _], h => absurd rfl h
      | _ :: _ :: _ :: _, _ => rfl) fun cdv A outer sh H E F0 gd hcd ad hT hr s ds hl => match ds, hl with
      | [a, b], _ => ⟨_, em s a b, body cdv A outer sh H E F0 gd hcd ad hT hr s a b⟩
theorem fnS3 {m : DK → D → D → D → R (D × DK)} {mb : DK → D → D → D → R (Fl (D × DK) DK)} (em : ∀ s a b c, m s a b c = finS (mb s a b c)) (Fn : FunD K x qual params bd scope dvs kws f fd) (S : FnScope N [a0, a1, a2, a3] scope) (hN : ([a0, a1, a2, a3] : List Str).length ≤ N.length)
    (body : ∀ (cdv : Value) (A : Around) (outer : List PySem.Env) (sh : Shared) (H : Hp) (E : XK) (F0 : Hp) (gd : bb = true → A.guards = some []) (hcd : CodeAt K f cdv) (ad : Addr) (hT : LamX.Tabs TN.T (del H ad)), Room k (gOfS P w K mg base C N qual scope f cdv A outer sh H E F0 gd ad hT).X.A → ∀ (s : DK) (a b c : D),
      CB (gOfS P w K mg base C N qual scope f cdv A outer sh H E F0 gd ad hT) (ζS K C ad) (fun s : DK => .k ad s :: List.replicate (N.length - 1) Sl.no) bd (.k ad s :: ([Sl.d a, Sl.d b, Sl.d c] ++ List.replicate (N.length - 4) Sl.no)) (mb s a b c)) :
    FnG P w K mg base (L2.CX P w) bb (k + 1) f fd [a0, a1, a2, a3] (spS K C (mS3 m)) := fn_dlS Fn S (n := 3) rfl hN (fun s ds h => match ds, h with
      | [], _ => rfl
      | [_], _ => rfl
      | [_, _], _ => rfl
      | [_, _, _], h => absurd rfl h
      | _ :: _ :: _ :: _ :: _, _ => rfl) fun cdv A outer sh H E F0 gd hcd ad hT hr s ds hl => match ds, hl with
      | [a, b, c], _ => ⟨_, em s a b c, body cdv A outer sh H E F0 gd hcd ad hT hr s a b c⟩
end
end

/-! ## a built-in's call, its argument made with the state -/
section
variable {α γ : Type} {g : G} {Γ : List Sl} {e b : Expr} {pos p1 : Pos} {a : Addr} {s : DK} {ρ1 : Rep V α} {ρ : Rep V γ} {h : α → Option γ} {r : R (α × DK)} {x : Str} {id : String}
theorem cgs_callB (ho : CallD g.X (.builtin id) ρ1 ρ h) (ha : CGS g ρ1 a b Γ r) (hm : g.X.mg x = none) (hv : bootBuiltins x = some (.builtin id)) (hg : Gl g.X x := by rfl) (hn : x ≠ "__name__" := by decide) (hdb : (x == ("__debug__" : Str)) = false := by decide)
    (he : starEach [b] g.X.env = [(false, eval b g.X.env)] := by rfl) : CGS g ρ a (.Call (.Name x p1) [b] [] pos) Γ (bnd r fun x t => .of (h x) >>= fun y => .ok (y, t)) := .mk fun F H σ Q E p => by
  obtain ⟨rr, h1, h2⟩ := ho
  exact wE_of (pe_callB h1 hg hm hv (pa_cons (pe_w _ b) pa_nil he) hn hdb (by rw [he]; rfl) (by rfl)) (ha F H σ _ E (p.seq (k := fun v t => .of (h v) >>= fun y => .ok (y, t)) fun v s1 u F1 H1 g1 st1 r1 p1 => h2 F1 H1 _ u v Q g1.fh r1 (p1.ofV st1)))
theorem cgs_callT (ho : CallD g.X (.type id) ρ1 ρ h) (ha : CGS g ρ1 a b Γ r) (hm : g.X.mg x = none) (hv : bootBuiltins x = some (.type id)) (hg : Gl g.X x := by rfl) (hn : x ≠ "__name__" := by decide) (hdb : (x == ("__debug__" : Str)) = false := by decide)
    (he : starEach [b] g.X.env = [(false, eval b g.X.env)] := by rfl) : CGS g ρ a (.Call (.Name x p1) [b] [] pos) Γ (bnd r fun x t => .of (h x) >>= fun y => .ok (y, t)) := .mk fun F H σ Q E p => by
  obtain ⟨rr, h1, h2⟩ := ho
  exact wE_of (pe_callTy h1 hg hm hv (pa_cons (pe_w _ b) pa_nil he) hn hdb (by rw [he]; rfl) (by rfl)) (ha F H σ _ E (p.seq (k := fun v t => .of (h v) >>= fun y => .ok (y, t)) fun v s1 u F1 H1 g1 st1 r1 p1 => h2 F1 H1 _ u v Q g1.fh r1 (p1.ofV st1)))
end

/-! ## comprehensions with the state -/
def compRS (t : DK → D → R (Bool × DK)) (e : DK → D → R (D × DK)) : List D → DK → Option (List D × DK)
  | [], s => some ([], s)
  | x :: xs, s => match t s x with
    | .ok (b, s1) => if b = true then (match e s1 x with
      | .ok (y, s2) => (compRS t e xs s2).map (fun z => (y :: z.1, z.2))
      | _ => none) else compRS t e xs s1
    | _ => none
def compLS (t : DK → D → R (Bool × DK)) (e : DK → D → R (D × DK)) (xs : List D) (s : DK) : Option (List D × DK) := if xs.length ≤ lim then compRS t e xs s else none
section
variable {g : G} {Γ : List Sl} {elt tg iter c : Expr} {ifs : List Expr} {scope : Scope} {pos p1 : Pos} {own : List (Str × Nat)} {a : Addr} {s : DK} {ii : Nat}
structure CTsS (g : G) (a : Addr) (ifs : List Expr) (Γ : List Sl) (r : R (Bool × DK))  : Prop where
  h : ∀ F H σ Q, g.Env F H σ Γ → PostT g rB a F H σ Q r → wTs g.X ifs σ H Q
instance (g : G) (a : Addr) (ifs : List Expr) (Γ : List Sl) (r : R (Bool × DK))  : CoeFun (CTsS g a ifs Γ r) (fun _ => ∀ F H σ Q, g.Env F H σ Γ → PostT g rB a F H σ Q r → wTs g.X ifs σ H Q) := ⟨CTsS.h⟩
theorem ctsS_nil (i : Nat) (hi : Γ[i]? = some (.k a s) := by rfl) : CTsS g a [] Γ (.ok (true, s)) := .mk fun F H σ Q E p pins sh I => pts_nil.run pins sh σ H Q I (p.here E.ef (E.stA hi) rfl)
theorem ctsS_one {r : R (Bool × DK)} (h : CTS g a c Γ r) : CTsS g a [c] Γ r := .mk fun F H σ Q E p pins sh I => (pts_one (pt_w _ c)).run pins sh σ H Q I (h F H σ Q E p)
theorem blkS_post {α β : Type} {ρ : Rep β α} {sh : Shared} {H0 : Hp} {cenv : PySem.Env} {fp : List Addr} {F H : Hp} {σ : L2.St} {Q : β → Hp → Prop} {x : α} (h : ∀ b F' H', GrS a F H F' H' → StA g.X.K g.C F' H' a s → ρ.r H F' H' b x → Q b H') : PostT (g.blk sh H0 scope cenv fp) ρ a F H σ Q (.ok (x, s)) := h
theorem lcS_dl {rx : R (List D × DK)} {t : DK → D → R (Bool × DK)} {e : DK → D → R (D × DK)} {GT : TG} {ΓT : DK → D → List Sl} {F H : Hp} {σ : L2.St} {Q : VK} (hi : CIS g a tg iter Γ rx) (hk : Γ[ii]? = some (.k a s)) (hw : ii ∉ own.map (·.2)) (E : g.Env F H σ Γ)
    (hT : ∀ s' x, (t s' x = .un) ∨ ∀ F2 H2 σ2 v (Q2 : L2.St → Hp → Prop), g.Env F2 H2 (wipe σ2 (own.map (·.2))) (wipeS (Γ.set ii (.k a s')) (own.map (·.2))) → Rp g.X.K g.C F2 v x → (∀ σ3, g.Env F2 H2 σ3 (ΓT s' x) → wipe σ3 (own.map (·.2)) = wipe σ2 (own.map (·.2)) → Q2 σ3 H2) → GT v (wipe σ2 (own.map (·.2))) H2 Q2)
    (hΓ : ∀ s' x, (∃ F H σ, g.Env F H σ (ΓT s' x)) → (ΓT s' x)[ii]? = some (.k a s')) (hΓ2 : ∀ s' s2 x, (ΓT s' x).set ii (.k a s2) = ΓT s2 x)
    (ht : ∀ s' x sh H0 C cl fp, CTsS (g.blk sh H0 scope (compEnvC scope cl C g.X.env) fp) a ifs (ΓT s' x) (t s' x)) (he : ∀ s' x sh H0 C cl fp, CES (g.blk sh H0 scope (compEnvC scope cl C g.X.env) fp) a elt (ΓT s' x) (e s' x))
    (p : PostT g (rN g.X.K g.C) a F H σ Q (bnd rx fun xs s => .of (compLS t e xs s))) : tLc (wI g.X tg iter) GT (bT g scope ifs) (bE g scope elt) (own.map (·.2)) σ H Q := by
  refine hi F H σ _ E ?_
  cases rx with
  | un => exact p
  | ex c x => exact p
  | ok z =>
    obtain ⟨xs, s1⟩ := z
    intro J F1 H1 g1 st1 wk D0 hD
    have p0 : PostT g (rN g.X.K g.C) a F H σ Q (R.of (compLS t e xs s1)) := p
    unfold compLS at p0
    split at p0
    case isFalse => exact (show False from p0).elim
    rename_i hlim
    cases q : compRS t e xs s1 with
    | none =>
      rw [q] at p0
      exact (show False from p0).elim
    | some out =>
      obtain ⟨out, sEnd⟩ := out
      rw [q] at p0
      have p1 : ∀ b F' H', GrS a F H F' H' → StA g.X.K g.C F' H' a sEnd → (rN g.X.K g.C).r H F' H' b out → Q b H' := p0
      obtain ⟨u1, hu1⟩ := st1.there
      have hH0 : H D0 = none := GrS.dom hu1 g1 D0 hD
      have nDa : D0 ≠ a := ne_of_some hu1 hD
      have gD : Gr F1 H1 F1 (upd H1 D0 (.lst [])) := Gr.own g1.fh hD
      refine ⟨fun k m H2 => m = xs.length - k ∧ ∃ F2 acc ds rest s2, Ex F1 F2 ∧ GrS a F H F2 H2 ∧ StA g.X.K g.C F2 H2 a s2 ∧ F2 D0 = none ∧ H2 D0 = some (.lst acc) ∧ RpA g.X.K g.C F2 acc ds ∧ ds.length ≤ k ∧ compRS t e (xs.drop k) s2 = some (rest, sEnd) ∧ out = ds ++ rest,
        ⟨xs.length, rfl, F1, [], [], out, s1, Ex.refl _, GrS.trans hu1 g1 (GrS.of gD), st1.gr gD, g1.fh.back hD, upd_same, .nil, Nat.le_refl _, by rw [List.drop_zero]; exact q, rfl⟩, ?_⟩
      rintro k m H2 ⟨rfl, F2, acc, ds, rest, s2, x1, g2, st2, f0, h0, ra, hl, hc, ho⟩
      obtain ⟨w1, w2⟩ := wk k F2 H2 x1 g2.fh
      cases qk : xs[k]? with
      | none =>
        have hk' : xs.length ≤ k := List.getElem?_eq_none_iff.mp qk
        rw [List.drop_eq_nil_of_le hk'] at hc
        cases hc
        rw [List.append_nil] at ho
        subst ho
        exact .inl ⟨w1 hk', p1 _ F2 H2 g2 st2 ⟨D0, acc, rfl, hH0, f0, h0, ra⟩⟩
      | some x =>
        obtain ⟨hk', ex⟩ := List.getElem?_eq_some_iff.mp qk
        obtain ⟨go, y⟩ := w2 x qk
        rw [List.drop_eq_getElem_cons hk', ex] at hc
        refine .inr ⟨go, fun H2 => ∃ F2 acc ds rest s2, Ex F1 F2 ∧ GrS a F H F2 H2 ∧ StA g.X.K g.C F2 H2 a s2 ∧ F2 D0 = none ∧ H2 D0 = some (.lst acc) ∧ RpA g.X.K g.C F2 acc ds ∧ ds.length ≤ k + 1 ∧ compRS t e (xs.drop (k + 1)) s2 = some (rest, sEnd) ∧ out = ds ++ rest, fun H' n => ⟨xs.length - (k + 1), by omega, rfl, n⟩, fun v H3 hy => ?_⟩
        obtain ⟨F3, g3, r3⟩ := y v H3 hy
        obtain ⟨u2, hu2⟩ := st2.there
        have g03 : GrS a F H F3 H3 := GrS.trans hu2 g2 (GrS.of g3)
        have st3 := st2.gr g3
        have E3 : g.Env F3 H3 (wipe σ (own.map (·.2))) (wipeS (Γ.set ii (.k a s2)) (own.map (·.2))) := (E.grS hk g03 st3).wipe _
        have f3 : F3 D0 = none := g3.n _ _ h0 f0
        have h3 : H3 D0 = some (.lst acc) := g3.h.at h0
        unfold compRS at hc
        rcases hT s2 x with tu | hT
        · rw [tu] at hc
          cases hc
        refine hT F3 H3 σ v _ E3 r3 fun σ4 E4 ew => ⟨ew, fun s' H0 CC cl fp => ?_⟩
        cases qt : t s2 x with
        | un =>
          rw [qt] at hc
          cases hc
        | ex c z =>
          rw [qt] at hc
          cases hc
        | ok b =>
          obtain ⟨b, s4⟩ := b
          rw [qt] at hc
          refine ht s2 x s' H0 CC cl fp F3 H3 σ4 _ E4 (by
            rw [qt]
            refine blkS_post fun b' F5 H5 g5 st5 rb => ?_
            obtain rfl : b' = b := rb
            obtain ⟨u3, hu3⟩ := st3.there
            have f5 : F5 D0 = none := g5.n _ _ h3 f3
            have h5 : H5 D0 = some (.lst acc) := g5.keep nDa h3
            have g05 : GrS a F H F5 H5 := GrS.trans hu3 g03 g5
            have E5 : g.Env F5 H5 σ4 (ΓT s4 x) := by
              have := EnvOk.grS E4 (hΓ s2 x ⟨_, _, _, E4⟩) g5 st5
              rw [hΓ2] at this
              exact this
            cases b' with
            | false =>
              exact iteF ⟨F5, acc, ds, rest, s4, x1.trans (g3.f.trans g5.f), g05, st5, f5, h5, ra.mono (g3.f.trans g5.f), by omega, hc, ho⟩
            | true =>
              refine iteT fun s6 H06 C6 cl6 fp6 => ?_
              have hc' : (match e s4 x with
                | .ok (y, s5) => (compRS t e (xs.drop (k + 1)) s5).map (fun z => (y :: z.1, z.2))
                | _ => none) = some (rest, sEnd) := hc
              cases qe : e s4 x with
              | un =>
                rw [qe] at hc'
                cases hc'
              | ex c z =>
                rw [qe] at hc'
                cases hc'
              | ok y =>
                obtain ⟨y, s5⟩ := y
                rw [qe] at hc'
                cases qr : compRS t e (xs.drop (k + 1)) s5 with
                | none =>
                  dsimp only at hc'
                  rw [qr] at hc'
                  cases hc'
                | some rest' =>
                  obtain ⟨rest', sE⟩ := rest'
                  dsimp only at hc'
                  rw [qr] at hc'
                  cases hc'
                  refine he s4 x s6 H06 C6 cl6 fp6 F5 H5 σ4 _ E5 ?_
                  rw [qe]
                  refine blkS_post fun u F7 H7 g7 st7 ru => ?_
                  obtain ⟨u5, hu5⟩ := st5.there
                  have f7 : F7 D0 = none := g7.n _ _ h5 f5
                  have h7 : H7 D0 = some (.lst acc) := g7.keep nDa h5
                  have gg : GrS a F H F7 H7 := GrS.trans hu5 g05 g7
                  have xx : Ex F2 F7 := g3.f.trans (g5.f.trans g7.f)
                  refine ⟨acc, h7, ?_, F7, acc ++ [u], ds ++ [y], rest', s5, x1.trans xx, ⟨gg.f, ?_, gg.fh.write f7, gg.n, gg.t.trans (TX.write h7 ⟨(fun _ z => nomatch z), (fun _ z => nomatch z)⟩)⟩, ?_, f7, upd_same, (ra.mono xx).append (.one ru), by simp; omega, qr, by simp [ho]⟩
                  · have l1 := ra.length
                    exact lim_lt (by omega)
                  · exact gg.h.write (by rw [del_ne' nDa]; exact hH0)
                  · obtain ⟨sf, ws, sh, sr⟩ := st7
                    exact ⟨sf, ws, by rw [upd_ne (Ne.symm nDa)]; exact sh, sr⟩)
theorem set_swap {Γ : List Sl} {i j : Nat} {x u v : Sl} (h : i ≠ j) : (((Γ.set i u).set j .no).set j x).set i v = ((Γ.set i v).set j .no).set j x := by
  rw [List.set_set, List.set_set, List.set_comm _ _ h, List.set_set, List.set_comm _ _ h]
/-- [e for n in iter if ..], e, the tests with the state -/
theorem cn_compS (ii j : Nat) {n : Str} {rx : R (List D × DK)} {t : DK → D → R (Bool × DK)} {e : DK → D → R (D × DK)} (hi : CIS g a (.Name n p1) iter Γ rx) (nd : g.X.N.Nodup) (hc : g.X.calm = true) (hb : blkC g.X.N g.X.env.scope scope [(n, j)] = true)
    (ht : ∀ s' x sh H0 C cl fp, CTsS (g.blk sh H0 scope (compEnvC scope cl C g.X.env) fp) a ifs (((Γ.set ii (.k a s')).set j .no).set j (.d x)) (t s' x)) (he : ∀ s' x sh H0 C cl fp, CES (g.blk sh H0 scope (compEnvC scope cl C g.X.env) fp) a elt (((Γ.set ii (.k a s')).set j .no).set j (.d x)) (e s' x))
    (hg : ∀ (s : Shared) (H : Hp) (C : Addr) (cl : List (Str × Addr)) (fp : List Addr), PG (g.X.blk s H scope (compEnvC scope cl C g.X.env) fp) (.Name n p1) (gName j))
    (hij : ii ≠ j := by decide) (hk : Γ[ii]? = some (.k a s) := by rfl) (hs : ∀ x, foldedSetIterable iter g.X.env x = pure x := by intro _; rfl) :
    CNS g a (.ListComp elt [⟨.Name n p1, iter, ifs, 0⟩] scope pos) Γ (bnd rx fun xs s => .of (compLS t e xs s)) := .mk fun F H σ Q E p =>
  wE_of (pe_lc (te := bE g scope elt) (tt := bT g scope ifs) hc nd (pi_w _ _ _) (blkOk_by hb) hg (fun s H C cl fp => ⟨fun pins s' σ H' Q I h => h s H C cl fp pins s' I⟩) (fun s H C cl fp => ⟨fun pins s' σ H' Q I h => h s H C cl fp pins s' I⟩) hs)
    (lcS_dl (GT := gName j) (own := [(n, j)]) (ΓT := fun s' x => ((Γ.set ii (.k a s')).set j .no).set j (.d x)) hi hk (by simp [hij]) E (fun s' x => .inr fun F2 H2 σ2 v Q2 E2 r k => k _ (EnvOk.set_d E2 j r) (wipe_set1 (by simp)))
      (fun s' x _ => by
        have hl : ii < Γ.length := (List.getElem?_eq_some_iff.mp hk).1
        rw [List.set_set, List.getElem?_set_ne (Ne.symm hij), List.getElem?_set_self hl]) (fun s' s2 x => set_swap hij) ht he p)
end
end DL
end
section
set_option Elab.async false
set_option linter.all false
set_option maxRecDepth 100000
set_option maxHeartbeats 2000000
set_option autoImplicit false
namespace DL
open PySem PySem.Spec PyProof.Rows L2
variable [TN]

/-! ## own errors: their making -/
section
variable {X : Cx} {e : Expr} {es : List Expr} {ta : TA} {te : TE} {p p1 p2 pos : Pos}
/-- Base.__init__(self, ..), Base an own class over ValueError without own __init__ -/
theorem pe_binit {B : Addr} {b : Str} {pl : Sem Bool} (hg : Gl X b) (hm : X.mg b = some (.ref B)) (ga : PySem.W.specialIn X.K (.ref B) "__getattribute__" = some (some (.builtin "type.__getattribute__"))) (hr : PySem.W.readsIn X.K B (.type "type") = true)
    (vV : PySem.W.findCls X.K (.ref B) (.type "type") "__init__" = some (.val (.builtin "ValueError.__init__"))) (ha : PA X (e :: es) ta)
    (hc : eval (.Call (.Attribute (.Name b p1) "__init__" p2) (e :: es) [] pos) X.env = (do
      let ov ← eval (.Name b p1) X.env
      standAt p2.atName
      let (f, first) ← holding [ov] (getMethod ov "__init__" pl)
      callWith pos f first (backTo pos (starEach (e :: es) X.env)) (backToKw pos (keywordEach [] X.env)))) (hdb : (b == ("__debug__" : Str)) = false)
    (he : starEach (e :: es) X.env = (false, eval e X.env) :: starEach es X.env := by rfl) (hpl : (backTo pos (starEach es X.env)).any (·.1) = false := by rfl) :
    PE X (.Call (.Attribute (.Name b p1) "__init__" p2) (e :: es) [] pos) (tVeI X.K ta) := by
  refine ⟨fun pins s σ H Q I h => ?_⟩
  refine PySem.W.methodCall_KW (ld_glob I hg hm ?_ hdb) hc
  refine PySem.W.method_cls I.kIn ga (PySem.W.cls_value I.kIn hr vV (by decide +kernel) ?_)
  show wpAny _ _ (callWith pos (Value.builtin "ValueError.__init__") [] (backTo pos (starEach (e :: es) X.env)) []) _ _ _
  refine PyProof.Rows.callWith_method1 (thn (ha.run pos pins _ σ H _ (I.tok _) h) fun us s1 ⟨vs, H1, I1, r1, a, C, ws, ev, hl, T, ea, q⟩ => ?_) he hpl
  subst ev
  cases r1 with
  | @cons _ u0 _ ur ra rw' =>
    obtain rfl : u0 = Value.ref a := ra
    have hlen : ur.length ≤ sizeLine := by
      rw [← Paired.length rw', sizeLine_eq]
      omega
    exact oinit_ok T I1 ea hlen fun s' J => ⟨.non, H1, J, rfl, q⟩
end

/-- what such an __init__(self, f) promises -/
def spI (A : Addr) (f : Str) : Sp := fun vs H Q _ => ∃ a y, vs = [.ref a, y] ∧ H a = some (exo a A none) ∧ ∀ dx, H dx = none → dx ≠ a → Q .non (upd (upd H dx (exd dx [(f, y)])) a (exo a A (some dx)))
/-- its body -/
def initB (b msg f : Str) (j : Nat) (p1 p2 p3 p4 p5 p6 q1 q2 q3 q4 : Pos) : List Stmt :=
  [.Expr (.Call (.Attribute (.Name b p1) "__init__" p2) [.Name "self" p3, .Constant (.str msg) j p4] [] p5) p6, .Assign [.Attribute (.Name "self" q1) f q2] (.Name f q3) q4]
def initS (b f : Str) : Scope := { kind := .function, names := [("self", .local), (f, .local), (b, .globalImplicit)], isGenerator := false, isCoroutine := false, more := [] }
/-- what the written part says of an own error class x, at A; its base b, at B; it keeps f -/
structure ErT (K : PySem.W.Frag) (mg : Str → Option Value) (x b f : Str) (A B fI : Addr) : Prop where
  gA : mg x = some (.ref A)
  gB : mg b = some (.ref B)
  T : OexC K A
  X : XfC K A
  no : PySem.W.findIn K (.ref A) f = some none
  iA : PySem.W.findIn K (.ref A) "__init__" = some (some (.ref fI))
  tI : PySem.W.typeIn K (.ref fI) = some (.type "function")
  ga : PySem.W.specialIn K (.ref B) "__getattribute__" = some (some (.builtin "type.__getattribute__"))
  hr : PySem.W.readsIn K B (.type "type") = true
  vV : PySem.W.findCls K (.ref B) (.type "type") "__init__" = some (.val (.builtin "ValueError.__init__"))
section
variable {P : Program} {w : World} {K : PySem.W.Frag} {mg : Str → Option Value} {base : Heap}
theorem init_ok {x b f msg qual : Str} {A B fI : Addr} {fd : FuncData} {params : Arguments} {dvs : List V} {j : Nat} {p1 p2 p3 p4 p5 p6 q1 q2 q3 q4 : Pos} {pl : PySem.Env → Sem Bool} (T : ErT K mg x b f A B fI)
    (F : FunD K "__init__" qual params (initB b msg f j p1 p2 p3 p4 p5 p6 q1 q2 q3 q4) (initS b f) dvs [] fI fd) (S : FnScope ["self", f] ["self", f] (initS b f))
    (hb : (initS b f).names.lookup b = some .globalImplicit) (hs : (initS b f).names.lookup f = some .local) (hdb : (b == ("__debug__" : Str)) = false) (hdf : (f == ("__debug__" : Str)) = false) (hcf : (f == ("__classdict__" : Str)) = false)
    (hc : ∀ env : PySem.Env, eval (.Call (.Attribute (.Name b p1) "__init__" p2) [.Name "self" p3, .Constant (.str msg) j p4] [] p5) env = (do
      let ov ← eval (.Name b p1) env
      standAt p2.atName
      let (f, first) ← holding [ov] (getMethod ov "__init__" (pl env))
      callWith p5 f first (backTo p5 (starEach [.Name "self" p3, .Constant (.str msg) j p4] env)) (backToKw p5 (keywordEach [] env))))
    (h1 : ∀ env : PySem.Env, swapsWith (.Call (.Attribute (.Name b p1) "__init__" p2) [.Name "self" p3, .Constant (.str msg) j p4] [] p5) none p6.line env = pure false) (h2 : ∀ env : PySem.Env, swapsWith (.Name f q3) (some (.Attribute (.Name "self" q1) f q2)) q4.line env = pure false)
    (he : ∀ env : PySem.Env, starEach [.Name "self" p3, .Constant (.str msg) j p4] env = (false, eval (.Name "self" p3) env) :: starEach [.Constant (.str msg) j p4] env) (he2 : ∀ env : PySem.Env, starEach [.Constant (.str msg) j p4] env = [(false, eval (.Constant (.str msg) j p4) env)])
    (hpl : ∀ env : PySem.Env, (backTo p5 (starEach [.Constant (.str msg) j p4] env)).any (·.1) = false) : FnOk P w K mg base (L2.CX P w) 1 fI fd ["self", f] (spI A f) := by
  refine F.ok S (fun vs H Q E h => ?_) fun cdv Ar outer s H vs Q E hr h => ?_
  · obtain ⟨a, y, rfl, _⟩ := h
    rfl
  · refine ⟨_, pss_cons (ps_expr (pe_binit (pl := pl _) hb T.gB T.ga T.hr T.vV (pa_cons (pe_var (i := 0) rfl (Or.inl rfl) (by decide) (by decide)) (pa_cons pe_str pa_nil (he2 _)) (he _)) (hc _) hdb (he _) (hpl _)) (h1 _))
      (pss_one (ps_ost (pe_var (i := 0) rfl (Or.inl rfl) (by decide) (by decide)) (pe_var (i := 1) rfl (Or.inl hs) hdf hcf) (h2 _))), ?_⟩
    obtain ⟨a, y, rfl, ha, q⟩ := h
    exact ⟨_, rfl, a, A, [.str msg], rfl, (by show 1 ≤ 1000; decide), T.T, ha, _, rfl, _, rfl, a, A, rfl, T.T, T.no, .inl ⟨ha, fun dx h1 h2 => q dx h1 h2⟩⟩
end
theorem upd_del {H : Hp} {a d : Addr} {o1 o2 o3 o4 : HO} (ha : H a = none) (hd : d ≠ a) : upd (L2.del (upd (upd (upd H a o1) d o2) a o3) a) d o4 = upd H d o4 := by
  funext b
  by_cases h1 : b = d
  · rw [h1, upd_same, upd_same]
  · rw [upd_ne h1, upd_ne h1]
    by_cases h2 : b = a
    · rw [h2, L2.del_same, ha]
    · rw [L2.del_ne h2, upd_ne h2, upd_ne h1, upd_ne h2]
/-- making such an error: behind e's value -/
theorem mk_err {A : Addr} {f : Str} {H : Hp} {Q : XK} {y : V} (q : ∀ d, H d = none → Q (.ref A) (some d) (upd H d (.xd [(f, y)]))) : [y].length ≤ 1000 ∧ ∀ a, H a = none → spI A f (.ref a :: ([y] ++ [])) (upd H a (exo a A none))
    (fun v H2 => v = .non ∧ ∃ (d : Addr) (fs : List (Str × V)), H2 a = some (exo a A (some d)) ∧ H2 d = some (exd d fs) ∧ H d = none ∧ Q (.ref A) (some d) (upd (L2.del H2 a) d (.xd fs))) (fun _ _ _ => False) := by
  refine ⟨by show 1 ≤ 1000; decide, fun a ha => ⟨a, y, rfl, upd_same, fun dx h1 h2 => ⟨rfl, dx, [(f, y)], upd_same, ?_, ?_, ?_⟩⟩⟩
  · rw [upd_ne h2, upd_same]
  · rw [upd_ne h2] at h1
    exact h1
  · rw [upd_del ha h2]
    rw [upd_ne h2] at h1
    exact q dx h1
section
variable {T S : Type} {g : G} {ζ : Ret T} {Γ : List Sl} {γ : S → List Sl} {e : Expr} {p pos p2 : Pos} {sts : List Stmt}
/-- raise x(e), x an own error class that keeps e -/
theorem cb_raise {x b f : Str} {A B fI : Addr} {fd : FuncData} {ps : List Str} {r : R D} (he : CE g e Γ r) (Tx : ErT g.X.K g.X.mg x b f A B fI) (hC : g.C.c x = some (A, f)) (F1 : FnOk g.X.prog g.X.w g.X.K g.X.mg g.X.base (L2.CX g.X.prog g.X.w) 1 fI fd ps (spI A f)) (hr : Room 2 g.X.A) (hb : Binds g.X.K fd ps [])
    (hc : g.X.calm = true) (hg : Gl g.X x := by rfl) (hdb : (x == ("__debug__" : Str)) = false := by decide) (hst : starEach [e] g.X.env = [(false, eval e g.X.env)] := by rfl) (hm : g.C.m x = none := by rfl) :
    CB g ζ γ (.Raise (some (.Call (.Name x p) [e] [] pos)) none p2 :: sts) Γ (r >>= fun v => .ex x v) := .mk fun F H σ Dn E q => by
  refine wB_of (pss_cons (ps_raise hc g.tk (pmk_oex (x := x) (p := p) (pos := pos) (CX := L2.CX g.X.prog g.X.w) (ds := []) (dvs := []) Tx.T Tx.iA Tx.tI F1 hr hb .nil (fun pins σ H s e s' I h => by
    obtain ⟨_, _, _, _, _, _, _, _, _, _, _, _, z⟩ := h
    exact z.elim) hg Tx.gA (pa_cons (pe_w _ e) pa_nil hst) hdb hst (by rfl))) (pss_w _ sts)) ?_
  refine he F H σ _ E (q.expr E fun v u F1 H1 g1 r1 E1 q1 => ?_)
  refine mk_err (A := A) (f := f) (H := H1) (Q := fun cls d H' => g.W cls d σ H') (y := u) fun d hd => ?_
  have gr : Gr F1 H1 (upd F1 d (.xd [(f, u)])) (upd H1 d (.xd [(f, u)])) := Gr.alloc g1.fh hd
  exact q1 (.ref A) d σ _ _ (E1.toBas.grow gr) ⟨A, f, u, hm, hC, rfl, upd_same, Rp.mono gr.f r1⟩
end
end DL
end
section
set_option Elab.async false
set_option linter.all false
set_option maxRecDepth 100000
set_option maxHeartbeats 2000000
set_option autoImplicit false
namespace DL
open PySem PySem.Spec PyProof.Rows L2
variable [TN]

/-! ## try: the caught error is data from then on -/
section
variable {X : Cx} {pins : List (Addr × Obj)} {σ : L2.St} {H : Hp} {s : Shared}
/-- an object of ours that is new since the def's start comes to be tracked, as an error -/
theorem inv_track {a A dx : Addr} {oe : Obj} {vs : Array Value} (I : Inv X pins σ H s) (ha : s.heap.get? a = some oe) (hz : Zc (.ref A) (some dx) oe) (hf : oe.data = .fields vs) (hn : H a = none) (hl : a ≠ X.env.locals) (h0 : X.s_0.heap.get? a = none) (hp : ∀ p ∈ X.pn ++ pins, p.1 ≠ a) :
    Inv X pins σ (upd H a (exv a A dx)) s := by
  have ne : ∀ {b : Addr} {o : HO}, H b = some o → b ≠ a := fun q => ne_of_none q hn
  have up : ∀ {b : Addr}, b ≠ a → upd H a (exv a A dx) b = H b := fun q => upd_ne q
  have B := I.base
  refine { ok := I.ok, os := I.os, bare := I.bare, loc := I.loc, cell := I.cell, len := I.len, base := ?_, free := ?_, freeC := ?_, pin := ?_, hok := ?_ }
  · refine { keep := B.keep, slot := B.slot, there := B.there, free := fun b o q z w => ?_, tups := fun b xs q => ?_, frzs := fun b o u q => ?_, tbls := fun b ps q => ?_ }
    · rw [up (fun e => by rw [e, h0] at q; cases q)]
      exact B.free b o q z w
    · rw [up (ne (B.tups b xs q))]
      exact B.tups b xs q
    · rw [up (ne (B.frzs b o u q))]
      exact B.frzs b o u q
    · obtain ⟨more, z⟩ := B.tbls b ps q
      exact ⟨more, (up (ne z)).trans z⟩
  · rw [up (Ne.symm hl)]
    exact I.free
  · intro y c q
    have nc : c ≠ a := fun e => by
      obtain ⟨v, o, h1, h2⟩ := I.cell y c q
      rw [e, ha] at h1
      cases h1
      rw [hf] at h2
      cases h2
    rw [up nc]
    exact I.freeC y c q
  · intro p q
    obtain ⟨z1, z2, z3⟩ := I.pin p q
    exact ⟨z1, (up (hp p q)).trans z2, z3⟩
  · intro b o q
    by_cases e : b = a
    · subst e
      rw [upd_same] at q
      cases q
      exact ⟨⟨oe, vs, ha, hz.1, hz.2, hf⟩, ⟨oe, ha⟩, fun _ _ ⟨o1, v1, r1, r2⟩ k => ⟨o1, v1, k o1 r1, r2⟩⟩
    · rw [up e] at q
      exact (I.hok b o q).stay (fun _ _ _ z => z) (fun c z => (up (ne z)).trans z) fun c xs z => (up (ne z)).trans z
end
/-- behind a clause its name is nothing's -/
def endsH (oi : Option Nat) (D : Ends) : Ends := match oi with
  | none => D
  | some i => { nx := fun τ K => D.nx (τ.set i none) K, rt := D.rt, bk := fun τ K => D.bk (τ.set i none) K, ct := fun τ K => D.ct (τ.set i none) K }
def inH (oi : Option Nat) (σ : L2.St) (a : Addr) : L2.St := match oi with
  | none => σ
  | some i => σ.set i (some (.ref a))
abbrev HdT : Type := Value × Option Nat × TS
/-- what the clauses wish of an error of the body -/
def wHds (K : PySem.W.Frag) (Wo : WX) (D : Ends) : List HdT → WX
  | [] => Wo
  | (c, oi, ts) :: r => fun cls d σ H => ∃ b, PySem.W.exmOne K cls c = some b ∧ (b = true → ∃ A dx, cls = .ref A ∧ d = some dx ∧ ∀ a, H a = none → ts (endsH oi D) (inH oi σ a) (upd H a (exv a A dx))) ∧ (b = false → wHds K Wo D r cls d σ H)
/-- the clause's name -/
def NmOk (X : Cx) : Option Str → Option Nat → Prop
  | none, none => True
  | some n, some i => X.N[i]? = some n ∧ X.env.kindOf n = some .local
  | _, _ => False
inductive HdOk (X : Cx) : List ExceptHandler → List HdT → Prop
  | nil : HdOk X [] []
  | cons {x : Str} {c : Value} {ts : TS} {b0 : Stmt} {su : List Stmt} {np p' : Pos} {on : Option Str} {oi : Option Nat} {hds : List ExceptHandler} {l : List HdT} (hc : Names X x c) (hn : NmOk X on oi)
      (hsu : ∀ (a : Addr) (pn : List (Addr × Obj)), PSs (X.suite a pn) (b0 :: su) ts) (r : HdOk X hds l) : HdOk X (.ExceptHandler (some (.Name x np)) on (b0 :: su) p' :: hds) ((c, oi, ts) :: l)
theorem unsuite' {X : Cx} {a : Addr} {pins : List (Addr × Obj)} {σ : L2.St} {H : Hp} {s : Shared} (I : Inv (X.suite a (X.pn ++ pins)) [] σ H s) (ok : X.Ok) : Inv X pins σ H s :=
  ⟨ok, I.os, I.bare, I.base, I.loc, I.cell, I.free, I.freeC, fun p hp => I.pin p (List.mem_append_left _ hp), I.hok, I.len⟩
theorem tosuite {X : Cx} {a : Addr} {pins : List (Addr × Obj)} {σ : L2.St} {H : Hp} {s : Shared} (I : Inv X pins σ H s) : Inv (X.suite a (X.pn ++ pins)) [] σ H s :=
  ⟨I.ok.suite _ _, I.os, I.bare, I.base, I.loc, I.cell, I.free, I.freeC, fun p hp => I.pin p (by
    rw [List.append_nil] at hp
    exact hp), I.hok, I.len⟩
section
variable {X : Cx} {body : List Stmt} {h0 : ExceptHandler} {hds : List ExceptHandler} {l : List HdT} {pos : Pos} {tb : WX → TS} {Wo : WX}
/-- try: body / except X1 [as n1]: .. / except X2 [as n2]: .. -/
theorem ps_try_h (hs : X.stack = X.env :: X.outer) (hf : X.env.frame = some X.env.locals) (hex : X.ex = []) (nd : X.N.Nodup) (tk : Takes X Wo)
    (hb : ∀ (W : WX) (pn : List (Addr × Obj)) (xe : Value → Shared → Prop), Takes (X.tr pn xe) W → PSs (X.tr pn xe) body (tb W))
    (hh : HdOk X (h0 :: hds) l) : PS X (.Try body (h0 :: hds) [] [] pos) (fun D σ H => tb (wHds X.K Wo D l) D σ H) := by
  refine ⟨fun pins s σ H D I want => ?_⟩
  have okX := I.ok
  have frX : X.A.frames = some (X.env :: X.outer) := by
    rw [okX.frames, hs]
  refine wpAny_Try_except (wpAny_mono ((hb (wHds X.K Wo D l) (X.pn ++ pins) (fun e t1 => wpAny (model X.prog X.w) X.A (noteFrame e X.env) (fun _ t2 => wpAny (model X.prog X.w) X.A (setFlight e none) (fun _ t3 => wpAny (model X.prog X.w) X.A (handleBy e X.env (h0 :: hds)) (SP X pins D) X.xe t3) X.xe t2) X.xe t1) (fun u t xx => ?_)).run [] s σ H D (I.toTry _) want) (fun f t got => ?_) fun e t q => q)
  · obtain ⟨a, B, sI, pins', σ', H', cls, d, rfl, J', nb, up, sky, na, os, ag, w⟩ := xx
    have J : Inv X pins σ' H' sI := J'.ofTry okX
    have skyX : Sky B (X.env :: X.outer) a (Zc cls d) X.env.locals t.heap := by
      rw [← hs]
      exact sky
    show wpAny (model X.prog X.w) X.A (noteFrame (.ref a) X.env) _ _ _
    refine Sky.land Zc.steady frX hf skyX fun h3 fl3 up3 => ?_
    have J3 : Inv X pins σ' H' { t with heap := h3 } := J.landed nb fl3.1 (up.trans up3) os ag
    obtain ⟨oe3, vs3, he3, hz3, hd3⟩ := fl3.there
    -- the error is no frame, it was not there at the start
    have noB : B.get? a = none := fl3.2.1
    have noF : a ∉ frs (X.env :: X.outer) := fun hm => by
      obtain ⟨_, o1, r1, r2⟩ := fl3.2.2.1.mem hm
      rw [he3] at r1
      cases r1
      exact r2 _ hd3
    have noL : a ≠ X.env.locals := fun z => noF (List.mem_filterMap.mpr ⟨X.env, List.mem_cons_self, hf.trans (congrArg some z.symm)⟩)
    have noO : a ∉ X.fs := fun hm => by
      obtain ⟨e1, r1, r2⟩ := List.mem_filterMap.mp hm
      exact noF (List.mem_filterMap.mpr ⟨e1, List.mem_cons_of_mem _ r1, r2⟩)
    have inB : ∀ {b : Addr} {o : Obj}, sI.heap.get? b = some o → b ∉ frs (X.env :: X.outer) → b ≠ a := fun {b o} q r e => by
      have z := nb b o q (by rw [hs]; exact r)
      rw [e, noB] at z
      cases z
    have noS : X.s_0.heap.get? a = none := by
      cases q : X.s_0.heap.get? a with
      | none => rfl
      | some o =>
        obtain ⟨o', r⟩ := J.base.there a o q (by rw [hex]; simp)
        exact (inB r noF rfl).elim
    have noP : ∀ p ∈ X.pn ++ pins, p.1 ≠ a := fun p hp => by
      obtain ⟨r1, _, r3, r4, _⟩ := J.pin p hp
      refine inB r1 fun hm => ?_
      obtain ⟨e1, q1, q2⟩ := List.mem_filterMap.mp hm
      rcases List.mem_cons.mp q1 with z | z
      · rw [z, hf] at q2
        exact r3 (Option.some.inj q2).symm
      · exact r4 (List.mem_filterMap.mpr ⟨e1, z, q2⟩)
    have walk : ∀ {hs2 : List ExceptHandler} {l2 : List HdT}, HdOk X hs2 l2 → wHds X.K Wo D l2 cls d σ' H' → wpAny (model X.prog X.w) X.A (handleBy (.ref a) X.env hs2) (SP X pins D) X.xe { t with heap := h3 } := by
      intro hs2 l2 hk
      induction hk with
      | nil =>
        intro w
        refine wpAny_handleBy_nil ?_
        obtain ⟨_, _, _, oe, vs, T, oT, ts', he, hz, hd, h1, hr⟩ := id fl3
        unfold PySem.passOn
        refine wpAny_bind (wpAny_field he hd h1 ?_)
        rw [if_neg (show ¬ ((Value.ref T == Value.none) = true) from by simp)]
        have on : wpAny (model X.prog X.w) X.A (setFlight (.ref a) X.env.frame) (fun _ t4 => wpAny (model X.prog X.w) X.A (throw (.ref a) : Sem Flow) (SP X pins D) X.xe t4) X.xe { t with heap := h3 } := by
          rw [hf]
          exact HandSPX.setFlight_upZ fl3 fun h4 hh4 up4 => wpAny_throw (tk _ _ ⟨a, B, sI, pins, σ', H', cls, d, rfl, J, nb, (up.trans up3).trans up4, .inr (.inr (by rw [hs]; exact hh4)), na, os, ag, w⟩)
        first
          | exact wpAny_bind (wpAny_pure (wpAny_bind on))
          | exact wpAny_bind on
      | @cons x c ts b0 su np p' on oi hs3 l3 hc hn hsu r ih =>
        intro w
        obtain ⟨b, hb1, yes, no⟩ := w
        refine wpAny_handleBy_cons (codeAny_handlers_test ?_) (by intro q; cases q)
        have S3 := tosuite (a := a) J3
        have LT : PySem.W.Looks (model X.prog X.w) h3 (typeOf (.ref a)) cls := fun A Q E s k q => wpAny_typeOf_ref (k _ _ he3) (by
          rw [hz3.1]
          exact q)
        have LM := PySem.W.exm_one (M := model X.prog X.w) (J3.kIn) LT hb1
        have name : ∀ {Q : Value → Shared → Prop} {E : Value → Shared → Prop}, Q c { t with heap := h3 } → wpAny (model X.prog X.w) (X.A.mark (some (.ref a))) (eval (.Name x np) X.env) Q E { t with heap := h3 } := fun {Q E} q => by
          obtain ⟨hg, hdb, hm | ⟨hm, hv, hnn⟩⟩ := hc
          · exact ld_glob (X := X.suite a (X.pn ++ pins)) S3 hg hm q hdb
          · exact ld_blt (X := X.suite a (X.pn ++ pins)) S3 hg hm hv q hnn hdb
        refine name (LM.here ?_)
        cases b with
        | false =>
          show wpAny _ X.A (handleBy (.ref a) X.env hs3) _ _ _
          exact ih (no rfl)
        | true =>
          obtain ⟨A, dx, rfl, rfl, go⟩ := yes rfl
          have tracked : ∀ {h4 : Heap}, HandSPX.FlyingZ B (X.env :: X.outer) a (Zc (.ref A) (some dx)) h4 → h3.UpToSlots h4 → Inv (X.suite a (X.pn ++ pins)) [] σ' (upd H' a (exv a A dx)) { t with heap := h4 } := fun {h4} fl4 up4 => by
            have J4 : Inv X pins σ' H' { t with heap := h4 } := J.landed nb fl4.1 ((up.trans up3).trans up4) os ag
            obtain ⟨oe4, vs4, he4, hz4, hd4⟩ := fl4.there
            exact tosuite (inv_track J4 he4 hz4 hd4 na noL noS noP)
          cases on with
          | none =>
            cases oi with
            | some i => exact False.elim hn
            | none =>
              refine codeAny_handlers_suite (HandSPX.lands_againZ fl3 fun h4 fl4 up4 => ?_)
              refine wpAny_mono ((hsu a (X.pn ++ pins)).run [] _ _ _ _ (tracked fl4 up4) (go a na)) (fun f t6 got => ?_) fun _ _ z => False.elim z
              cases f with
              | ret u =>
                obtain ⟨v6, τ, H6, S6, r6, q6⟩ := got
                exact ⟨_, _, _, unsuite' S6 okX, r6, q6⟩
              | _ =>
                obtain ⟨τ, H6, S6, q6⟩ := got
                exact ⟨_, _, unsuite' S6 okX, q6⟩
          | some n =>
            cases oi with
            | none => exact False.elim hn
            | some i =>
              obtain ⟨hi, hl⟩ := hn
              refine codeAny_handlers_suite_as (HandSPX.lands_againZ fl3 fun h4 fl4 up4 => ?_)
              refine store_ok (X := X.suite a (X.pn ++ pins)) (v := .ref a) (tracked fl4 up4) nd hi (.inl hl) rfl (fun t5 S5 => ?_) (.inr hl)
              refine wpAny_mono ((hsu a (X.pn ++ pins)).run [] t5 _ _ _ S5 (go a na)) (fun f t6 got => ?_) fun _ _ z => False.elim z
              have done : ∀ {τ : L2.St} {H6 : Hp} {Q : Shared → Prop}, Inv (X.suite a (X.pn ++ pins)) [] τ H6 t6 → (∀ t7, Inv X pins (τ.set i none) H6 t7 → Q t7) → wpAny (model X.prog X.w) X.A (do bindName X.env n .none; unbindBehindTheSuite X.env n p') (fun _ t7 => Q t7) X.xe t6 :=
                fun {τ H6 Q} S6 hq => gone_ok (unsuite' S6 okX) nd hi hl hq
              cases f with
              | ret u =>
                obtain ⟨v6, τ, H6, S6, r6, q6⟩ := got
                exact done S6 fun t7 J7 => ⟨_, _, _, J7, r6, q6⟩
              | _ =>
                obtain ⟨τ, H6, S6, q6⟩ := got
                exact done S6 fun t7 J7 => ⟨_, _, J7, q6⟩
    exact walk hh w
  · cases f with
    | next =>
      obtain ⟨τ, K1, J1, q⟩ := got
      exact wpAny_execs_nil ⟨τ, K1, J1.ofTry okX, q⟩
    | ret u =>
      obtain ⟨v, τ, K1, J1, r, q⟩ := got
      exact ⟨v, τ, K1, J1.ofTry okX, r, q⟩
    | _ =>
      obtain ⟨τ, K1, J1, q⟩ := got
      exact ⟨τ, K1, J1.ofTry okX, q⟩
end
end DL
end
section
set_option Elab.async false
set_option linter.all false
set_option maxRecDepth 100000
set_option maxHeartbeats 2000000
set_option autoImplicit false
namespace DL
open PySem PySem.Spec PyProof.Rows L2
variable [TN]

/-! ## errors as data: their field, isinstance -/
/-- what the written part says of an own error class for its objects to be read -/
structure ErC (K : PySem.W.Frag) (A : Addr) (f : Str) : Prop where
  X : XfC K A
  no : PySem.W.findIn K (.ref A) f = some none
  I : ExcC K A
def CtOk (K : PySem.W.Frag) (C : Ctab) : Prop := ∀ c A f, C.c c = some (A, f) → ErC K A f
section
variable {X : Cx} {pins : List (Addr × Obj)} {σ : L2.St} {H : Hp} {s : Shared}
theorem inst_exc {a A dx : Addr} {fs : List (Str × V)} (I : Inv X pins σ H s) (h1 : AtE H a A dx) (h2 : H dx = some (.xd fs)) : ∃ oe od, PySem.W.InstAt s.heap a oe A (some od) ∧ ∃ mA : Str → Option Value, (∀ f, PySem.W.lookIn f od = some (mA f)) ∧ ∀ f, RelO (fs.lookup f) (mA f) := by
  obtain ⟨oe, vs, e1, e2, e3, e4⟩ : ∃ (oe : Obj) (vs : Array Value), s.heap.get? a = some oe ∧ oe.cls = .ref A ∧ oe.dict = some dx ∧ oe.data = .fields vs := by
    obtain ⟨u, h1, e | ⟨t, e⟩⟩ := h1
    · subst e
      have x1 : ObjOk X.prog X.w H s.heap a (.ext fun h => ∃ (oe : Obj) (vs : Array Value), h.get? a = some oe ∧ oe.cls = .ref A ∧ oe.dict = some dx ∧ oe.data = .fields vs) := I.hok a _ h1
      exact x1.1
    · subst e
      have x1 : ObjOk X.prog X.w H s.heap a (.ext fun h => h.get? a = some ({ cls := .ref A, dict := some dx, data := .fields #[.ref t, .none, .none, .none, .bool false, .none] } : Obj)) := I.hok a _ h1
      exact ⟨_, _, x1.1, rfl, rfl, rfl⟩
  have x2 : ObjOk X.prog X.w H s.heap dx (.xd fs) := I.hok dx _ h2
  obtain ⟨mA, hns, hr⟩ := x2
  obtain ⟨od, ho, hl⟩ := lookIn_ns hns
  exact ⟨oe, od, ⟨e1, e2, by unfold PySem.W.notCls; rw [e4] <;> rfl, by rw [e3]; exact ho⟩, mA, hl, hr⟩
/-- e.f -/
def tFld (K : PySem.W.Frag) (f : Str) (te : TE) : TE := fun σ H Q => te σ H fun x H1 => ∃ a A dx fs v, x = .ref a ∧ AtE H1 a A dx ∧ H1 dx = some (.xd fs) ∧ XfC K A ∧ PySem.W.findIn K (.ref A) f = some none ∧ fs.lookup f = some v ∧ Q v H1
theorem pe_fld {e : Expr} {te : TE} {pos : Pos} {n : Str} (he : PE X e te) (hb : attributeBase e n X.env (eval e X.env) = eval e X.env) : PE X (.Attribute e n pos) (tFld X.K n te) := by
  refine ⟨fun pins s σ H Q I h => ?_⟩
  refine attr_of hb (thn (he.run pins s σ H _ I h) fun u s1 hh => ?_)
  obtain ⟨x, H1, I1, rx, a, A, dx, fs, v, ex, h1, h2, T, no, l, q⟩ := hh
  subst ex
  obtain rfl : u = Value.ref a := rx
  obtain ⟨oe, od, J, mA, hl, hr⟩ := inst_exc I1 h1 h2
  obtain ⟨w, hw, rw'⟩ := RelO.some_of (v := v) (o := mA n) (by rw [← l]; exact hr n)
  exact HandSPX.exc_get I1.kIn J T.ga T.gg T.exC (PySem.W.findObj_own T.hdC no rfl (by rw [hl, hw])) (handed_of rw') ⟨v, H1, I1.tok _, rw', q⟩
/-- isinstance(e, c) -/
def rIsX (K : PySem.W.Frag) : List V → Hp → VK → Prop := fun xs H Q => ∃ (a A dx : Addr) (fs : List (Str × V)) (c : V) (cv : Value) (b : Bool), xs = [.ref a, c] ∧ (∀ u, RelV c u → u = cv) ∧ AtE H a A dx ∧ H dx = some (.xd fs) ∧ ExcC K A ∧ PySem.W.kitOne K (.ref A) cv = some b ∧ Q (.bl b) H
theorem call_isX : CallR X (.builtin "isinstance") (rIsX X.K) := by
  intro pins s σ H xs us Q I r h
  obtain ⟨a, A, dx, fs, c, cv, b, rfl, hcv, h1, h2, C, e, q⟩ := h
  cases r with
  | cons rx rr =>
    cases rr with
    | cons rt rr =>
      cases rr
      cases rx
      have ec := hcv _ rt
      subst ec
      obtain ⟨oe, od, J, _⟩ := inst_exc I h1 h2
      have hcl : (PySem.W.clsIn X.K A).isSome = true := by
        obtain ⟨cd, hc, _⟩ := PySem.W.any_some C.hd
        rw [hc]
        rfl
      exact PySem.W.kia_one (PySem.W.kitx_exc hcl C.hg C.hk C.hs C.ha C.hn C.ht C.hm) I.kIn J e (fun z => nomatch z) fun tk => ⟨.bl b, H, I.kept (t' := tk) fun _ _ z => z, rfl, q⟩
end
section
variable {g : G} {Γ : List Sl} {e a : Expr} {pos p1 p2 : Pos}
def D.fld (C : Ctab) (f : Str) : D → Option D
  | .exc c x => (C.c c).bind fun p => if p.2 = f then some x else none
  | _ => none
theorem ce_fld {f : Str} {r : R D} (h : CE g e Γ r) (ct : CtOk g.X.K g.C) (hb : attributeBase e f g.X.env (eval e g.X.env) = eval e g.X.env := by rfl) : CE g (.Attribute e f pos) Γ (r >>= fun v => .of (v.fld g.C f)) := .mk fun F H σ Q E p => by
  refine wE_of (pe_fld (pe_w _ e) hb) (h F H σ _ E (p.seq fun x v F1 H1 g1 r1 p1 => ?_))
  cases x <;> try (exact (show False from p1).elim)
  rename_i c x
  cases r1 with
  | @exc a A dx f' _ v' _ h1 h2 h3 h4 =>
    unfold D.fld at p1
    dsimp only at p1
    rw [h1] at p1
    have p2 : Post g (rD g.X.K g.C) F1 H1 σ Q (R.of (if f' = f then some x else none)) := p1
    by_cases q : f' = f
    · subst q
      rw [if_pos rfl] at p2
      have E1 := ct c A _ h1
      exact ⟨a, A, dx, _, v', rfl, h2.at_.mono g1.fh, g1.fh.at h3, E1.X, E1.no, by simp [List.lookup], p2.here g1.fh h4⟩
    · rw [if_neg q] at p2
      exact (show False from p2).elim
/-- isinstance(an error, X): t tells it of the error's class -/
def isaX (t : Str → Option Bool) : D → Option D
  | .exc c _ => (t c).map D.bl
  | _ => none
theorem ce_isx {x : Str} {cV : V} {cv : Value} {r : R D} {t : Str → Option Bool} (h : CE g a Γ r) (ct : CtOk g.X.K g.C) (hx : PE g.X (.Name x p2) (tC cV)) (hcv : ∀ u, RelV cV u → u = cv) (ht : ∀ c A f b, g.C.c c = some (A, f) → t c = some b → PySem.W.kitOne g.X.K (.ref A) cv = some b)
    (hm : g.X.mg "isinstance" = none) (hg : Gl g.X "isinstance" := by rfl) (he : starEach [a, .Name x p2] g.X.env = (false, eval a g.X.env) :: starEach [.Name x p2] g.X.env := by rfl) (he2 : starEach [.Name x p2] g.X.env = [(false, eval (.Name x p2) g.X.env)] := by rfl) :
    CE g (.Call (.Name "isinstance" p1) [a, .Name x p2] [] pos) Γ (r >>= fun v => .of (isaX t v)) := .mk fun F H σ Q E p => by
  refine wE_of (pe_callB call_isX hg hm (by decide +kernel) (pa_cons (pe_w _ a) (pa_cons hx pa_nil he2) he) (by decide) (by decide) he (by rw [he2]; rfl)) ?_
  refine h F H σ _ E (p.seq fun x v F1 H1 g1 r1 p1 => ?_)
  cases x <;> try (exact (show False from p1).elim)
  rename_i c x
  unfold isaX at p1
  dsimp only at p1
  cases q : t c with
  | none =>
    rw [q] at p1
    exact (show False from p1).elim
  | some b =>
    rw [q] at p1
    cases r1 with
    | @exc a A dx f' _ v' _ h1 h2 h3 h4 =>
      exact ⟨a, A, dx, _, cV, cv, b, rfl, hcv, h2.at_.mono g1.fh, g1.fh.at h3, (ct c A _ h1).I, ht c A _ b h1 q, p1.here g1.fh (.bl b)⟩
end

/-! ## try -/
/-- within a try; within a suite -/
def G.tr (g : G) (pn : List (Addr × Obj)) (xe : Value → Shared → Prop) (W : WX) (tk : Takes (g.X.tr pn xe) W) : G := ⟨g.X.tr pn xe, g.C, W, g.B, g.F0, tk, g.b, g.gd, g.hT⟩
def G.su (g : G) (a : Addr) (pn : List (Addr × Obj)) : G := ⟨g.X.suite a pn, g.C, fun _ _ _ _ => False, g.B, g.F0, LamX.takes0, g.b, g.gd, g.hT⟩
def handD {α : Type} : List ((Str → Option Bool) × (D → R α)) → Str → D → R α
  | [], c, x => .ex c x
  | (t, f) :: r, c, x => match t c with
    | some true => f (.exc c x)
    | some false => handD r c x
    | none => .un
def tryM {T S1 S : Type} (rb : R (Fl T S1)) (k : S1 → R (Fl T S)) (hl : List ((Str → Option Bool) × (D → R (Fl T S)))) : R (Fl T S) := match rb with
  | .ok (.nx s) => k s
  | .ok (.rt d) => .ok (.rt d)
  | .ex c x => handD hl c x
  | .un => .un
section
variable {T S S1 : Type} {g : G} {ζ : Ret T} {Γ : List Sl} {γ : S → List Sl} {γ1 : S1 → List Sl} {e : Expr} {pos p1 p2 p3 : Pos} {sts body su : List Stmt} {Dn : Ends}
def PostB (g : G) (ζ : Ret T) (γ : S → List Sl) (Γ : List Sl) (W : WX) (D : Ends) (F : Hp) : R (Fl T S) → Prop
  | .ok (.nx s) => ∀ σ' F' H', Ex F F' → g.Env F' H' σ' (γ s) → D.nx σ' H'
  | .ok (.rt d) => ∀ v F' H', Bas g.B g.F0 F' H' → ζ.r F' H' v d → D.rt v H'
  | .ex c x => ∀ cl dx σ' F' H', Ex F F' → g.Env F' H' σ' Γ → ExR g.X.K g.C F' cl dx c x → W cl (some dx) σ' H'
  | .un => False
/-- a try's body, one statement: what is raised is raised where Γ holds yet -/
def CBx (g : G) (ζ : Ret T) (γ : S → List Sl) (body : List Stmt) (Γ : List Sl) (r : R (Fl T S)) : Prop := ∀ W pn xe, Takes (g.X.tr pn xe) W → ∀ F H σ Dn, g.Env F H σ Γ → PostB g ζ γ Γ W Dn F r → wB (g.X.tr pn xe) body Dn σ H
/-- x = e -/
theorem cbx_set (i : Nat) {n : Str} {r : R D} (h : ∀ pn xe W tk, CE (g.tr pn xe W tk) e Γ r) (nd : g.X.N.Nodup) (hi : g.X.N[i]? = some n := by rfl) (hx : Loc g.X.env.scope n := by first | exact Or.inl rfl | exact Or.inr rfl)
    (hf : g.X.fn n = true ∨ g.X.env.scope.names.lookup n = some .local := by first | exact .inl rfl | exact .inr rfl) (hs : swapsWith e (some (.Name n p1)) pos.line g.X.env = pure false := by rfl) :
    CBx g ζ (fun x : D => Γ.set i (.d x)) [.Assign [.Name n p1] e pos] Γ (r >>= fun x => .ok (.nx x)) := fun W pn xe tk F H σ Dn E p => by
  refine wB_of (pss_one (ps_set (X := g.X.tr pn xe) nd hi hx (pe_w _ e) hs hf)) (h pn xe W tk F H σ _ E ?_)
  cases r with
  | ok x => exact fun v F1 H1 g1 r1 => p _ F1 H1 g1.f ((E.grow g1).set_d i r1)
  | ex c x => exact fun cl dx F1 H1 g1 er => p cl dx σ F1 H1 g1.f (E.grow g1) er
  | un => exact p
/-- e -/
theorem cbx_expr {r : R D} (h : ∀ pn xe W tk, CE (g.tr pn xe W tk) e Γ r) (hs : swapsWith e none pos.line g.X.env = pure false := by rfl) : CBx g ζ (fun _ : D => Γ) [.Expr e pos] Γ (r >>= fun x => .ok (.nx x)) := fun W pn xe tk F H σ Dn E p => by
  refine wB_of (pss_one (ps_expr (X := g.X.tr pn xe) (pe_w _ e) hs)) (h pn xe W tk F H σ _ E ?_)
  cases r with
  | ok x => exact fun v F1 H1 g1 r1 => p _ F1 H1 g1.f (E.grow g1)
  | ex c x => exact fun cl dx F1 H1 g1 er => p cl dx σ F1 H1 g1.f (E.grow g1) er
  | un => exact p
/-- return e -/
theorem cbx_ret {γ : S → List Sl} {r : R D} (h : ∀ pn xe W tk, CE (g.tr pn xe W tk) e Γ r) : CBx g (ζD g.X.K g.C) γ [.Return (some e) pos] Γ (r >>= fun x => .ok (.rt x)) := fun W pn xe tk F H σ Dn E p => by
  refine wB_of (pss_one (ps_ret (X := g.X.tr pn xe) (pe_w _ e))) (h pn xe W tk F H σ _ E ?_)
  cases r with
  | ok x => exact fun v F1 H1 g1 r1 => p v F1 H1 (E.grow g1).toBas r1
  | ex c x => exact fun cl dx F1 H1 g1 er => p cl dx σ F1 H1 g1.f (E.grow g1) er
  | un => exact p
/-- a suite raises nothing -/
def R.calm {α : Type} : R α → R α
  | .ex _ _ => .un
  | r => r
@[simp] theorem calm_ok {α : Type} (a : α) : R.calm (.ok a : R α) = .ok a := rfl
@[simp] theorem calm_ex {α : Type} (c : Str) (x : D) : R.calm (.ex c x : R α) = .un := rfl
@[simp] theorem calm_un {α : Type} : R.calm (.un : R α) = .un := rfl
/-- one clause, with what follows the try -/
inductive HdD (g : G) (ζ : Ret T) (γ : S → List Sl) (sts : List Stmt) (Γ : List Sl) : ExceptHandler → (Str → Option Bool) → (D → R (Fl T S)) → Prop
  | as_ (i : Nat) {S1 : Type} {γ1 : S1 → List Sl} {x n : Str} {cv : Value} {b0 : Stmt} {su : List Stmt} {np p' : Pos} {t : Str → Option Bool} {f : D → R (Fl T S1)} {k : S1 → R (Fl T S)} (hc : Names g.X x cv) (ht : ∀ c A f b, g.C.c c = some (A, f) → t c = some b → PySem.W.exmOne g.X.K (.ref A) cv = some b)
      (hi : g.X.N[i]? = some n) (hl : g.X.env.kindOf n = some .local) (hsu : ∀ a pn x, CB (g.su a pn) ζ γ1 (b0 :: su) (Γ.set i (.d x)) (f x)) (hk : ∀ s, CB g ζ γ sts ((γ1 s).set i .no) (k s)) :
      HdD g ζ γ sts Γ (.ExceptHandler (some (.Name x np)) (some n) (b0 :: su) p') t (fun x => M.seq (f x).calm k)
  | no {S1 : Type} {γ1 : S1 → List Sl} {x : Str} {cv : Value} {b0 : Stmt} {su : List Stmt} {np p' : Pos} {t : Str → Option Bool} {r : R (Fl T S1)} {k : S1 → R (Fl T S)} (hc : Names g.X x cv) (ht : ∀ c A f b, g.C.c c = some (A, f) → t c = some b → PySem.W.exmOne g.X.K (.ref A) cv = some b)
      (hsu : ∀ a pn, CB (g.su a pn) ζ γ1 (b0 :: su) Γ r) (hk : ∀ s, CB g ζ γ sts (γ1 s) (k s)) :
      HdD g ζ γ sts Γ (.ExceptHandler (some (.Name x np)) none (b0 :: su) p') t (fun _ => M.seq r.calm k)
inductive HdsD (g : G) (ζ : Ret T) (γ : S → List Sl) (sts : List Stmt) (Γ : List Sl) : List ExceptHandler → List ((Str → Option Bool) × (D → R (Fl T S))) → Prop
  | nil : HdsD g ζ γ sts Γ [] []
  | cons {h : ExceptHandler} {hs : List ExceptHandler} {t : Str → Option Bool} {f : D → R (Fl T S)} {l : List ((Str → Option Bool) × (D → R (Fl T S)))} (a : HdD g ζ γ sts Γ h t f) (b : HdsD g ζ γ sts Γ hs l) : HdsD g ζ γ sts Γ (h :: hs) ((t, f) :: l)
theorem hds_ok {hds : List ExceptHandler} {hl : List ((Str → Option Bool) × (D → R (Fl T S)))} (h : HdsD g ζ γ sts Γ hds hl) : ∃ l : List HdT, HdOk g.X hds l ∧ ∀ {F H : Hp} {σ : L2.St} {Dn : Ends} {A dx : Addr} {f c : Str} {v : V} {x : D}, g.Env F H σ Γ → g.C.m c = none → g.C.c c = some (A, f) → F dx = some (.xd [(f, v)]) → Rp g.X.K g.C F v x →
    PostS g ζ γ Dn F (handD hl c x) → wHds g.X.K g.W { Dn with nx := fun τ K => wB g.X sts Dn τ K } l (.ref A) (some dx) σ H := by
  induction h with
  | nil => exact ⟨[], .nil, fun E hm h1 h2 h3 p => p _ _ _ _ _ E.toBas ⟨_, _, _, hm, h1, rfl, h2, h3⟩⟩
  | @cons h hs t f l a b ih =>
    obtain ⟨l2, k1, k2⟩ := ih
    cases a with
    | @as_ i S1 γ1 x n cv b0 su np p' _ f k hc ht hi hlo hsu hk =>
      refine ⟨(cv, some i, fun D σ H => ∀ a pn, wB (g.X.suite a pn) (b0 :: su) D σ H) :: l2, .cons hc ⟨hi, hlo⟩ (fun a pn => ⟨fun pins s σ H D I q => q a pn pins s I⟩) k1, fun {F H σ Dn A dx fl c v y} E hm h1 h2 h3 p => ?_⟩
      unfold handD at p
      cases q : t c with
      | none =>
        rw [q] at p
        exact (show False from p).elim
      | some b =>
        rw [q] at p
        refine ⟨b, ht c A fl b h1 q, fun eb => ⟨A, dx, rfl, rfl, fun a ha a2 pn => ?_⟩, fun eb => ?_⟩
        · subst eb
          have p2 : PostS g ζ γ Dn F (M.seq (f (.exc c y)).calm k) := p
          have gr : Gr F H (upd F a (exv a A dx)) (upd H a (exv a A dx)) := Gr.alloc E.ef ha
          have E1 : g.Env _ _ _ (Γ.set i (.d (.exc c y))) := (E.grow gr).set_d i (.exc h1 (.of hm upd_same) (gr.f.at h2) (Rp.mono gr.f h3))
          refine hsu a2 pn (.exc c y) _ _ _ _ E1 ?_
          have p3 := (p2.mono gr.f).seq (γ1 := γ1) (N := fun τ K => wB g.X sts Dn (τ.set i none) K) (B := fun τ K => Dn.bk (τ.set i none) K) (C := fun τ K => Dn.ct (τ.set i none) K) fun s τ F2 H2 x2 E2 q2 => hk s F2 H2 _ Dn (EnvOk.set_no E2 i none) q2
          cases z : f (.exc c y) with
          | ok fl =>
            rw [z] at p3
            cases fl with
            | nx s => exact p3
            | rt d => exact p3
          | ex c2 x2 =>
            rw [z] at p3
            exact (show False from p3).elim
          | un =>
            rw [z] at p3
            exact p3
        · subst eb
          exact k2 E hm h1 h2 h3 p
    | @no S1 γ1 x cv b0 su np p' _ r k hc ht hsu hk =>
      refine ⟨(cv, none, fun D σ H => ∀ a pn, wB (g.X.suite a pn) (b0 :: su) D σ H) :: l2, .cons hc True.intro (fun a pn => ⟨fun pins s σ H D I q => q a pn pins s I⟩) k1, fun {F H σ Dn A dx fl c v y} E hm h1 h2 h3 p => ?_⟩
      unfold handD at p
      cases q : t c with
      | none =>
        rw [q] at p
        exact (show False from p).elim
      | some b =>
        rw [q] at p
        refine ⟨b, ht c A fl b h1 q, fun eb => ⟨A, dx, rfl, rfl, fun a ha a2 pn => ?_⟩, fun eb => ?_⟩
        · subst eb
          have p2 : PostS g ζ γ Dn F (M.seq r.calm k) := p
          have gr : Gr F H (upd F a (exv a A dx)) (upd H a (exv a A dx)) := Gr.alloc E.ef ha
          refine hsu a2 pn _ _ _ _ (E.grow gr) ?_
          have p3 := (p2.mono gr.f).seq (γ1 := γ1) (N := fun τ K => wB g.X sts Dn τ K) (B := Dn.bk) (C := Dn.ct) fun s τ F2 H2 x2 E2 q2 => hk s F2 H2 _ Dn E2 q2
          cases r with
          | ok fl =>
            cases fl with
            | nx s => exact p3
            | rt d => exact p3
          | ex c2 x2 => exact (show False from p3).elim
          | un => exact p3
        · subst eb
          exact k2 E hm h1 h2 h3 p
/-- try: one statement / except ..; what follows -/
theorem cb_try {h0 : ExceptHandler} {hds : List ExceptHandler} {hl : List ((Str → Option Bool) × (D → R (Fl T S)))} {rb : R (Fl T S1)} {k : S1 → R (Fl T S)} (hb : CBx g ζ γ1 body Γ rb) (hk : ∀ s, CB g ζ γ sts (γ1 s) (k s)) (hh : HdsD g ζ γ sts Γ (h0 :: hds) hl)
    (nd : g.X.N.Nodup) (hs : g.X.stack = g.X.env :: g.X.outer) (hf : g.X.env.frame = some g.X.env.locals) (hex : g.X.ex = []) : CB g ζ γ (.Try body (h0 :: hds) [] [] pos :: sts) Γ (tryM rb k hl) := .mk fun F H σ Dn E p => by
  obtain ⟨l, ok, wish⟩ := hds_ok hh
  refine wB_of (pss_cons (ps_try_h (tb := fun W D σ H => ∀ pn xe, Takes (g.X.tr pn xe) W → wB (g.X.tr pn xe) body D σ H) hs hf hex nd g.tk (fun W pn xe tk => ⟨fun pins s σ H D I q => q pn xe tk pins s I⟩) ok) (pss_w _ sts)) ?_
  intro pn xe tk
  refine hb _ pn xe tk F H σ _ E ?_
  cases rb with
  | un => exact p
  | ok fl =>
    cases fl with
    | nx s =>
      have p2 : PostS g ζ γ Dn F (k s) := p
      exact fun σ' F' H' x E' => hk s F' H' σ' Dn E' (p2.mono x)
    | rt d => exact p
  | ex c x =>
    have p2 : PostS g ζ γ Dn F (handD hl c x) := p
    intro cl dx σ' F' H' xF E' er
    obtain ⟨A, f, v, hm, h1, rfl, h2, h3⟩ := er
    exact wish E' hm h1 h2 h3 (p2.mono xF)
end
end DL
end
section
set_option Elab.async false
set_option linter.all false
set_option maxRecDepth 100000
set_option maxHeartbeats 2000000
set_option autoImplicit false
namespace DL
open PySem PySem.Spec PyProof.Rows L2
variable [TN]

/-! ## a lambda without parameters, handed to a def of one parameter -/
abbrev lq (X : Cx) : Str := X.env.qual ++ "<lambda>"
section
variable {X : Cx} {pins : List (Addr × Obj)} {σ : L2.St} {H : Hp} {s : Shared}
/-- a code object comes to a table -/
theorem table_ex {P c' : Addr} {ps more : Array Value} {q : Str} (hP : H P = some (.tbl ps)) (hc : H c' = none) : Ex H (upd (upd H P (.tbl (ps ++ more))) c' (LamX.CodeO c' q)) := by
  have np : P ≠ c' := ne_of_none hP hc
  refine ⟨fun b o e n => ?_, fun b qs e => ?_⟩
  · have b1 : b ≠ P := fun z => by
      rw [z, hP] at e
      exact n ps (Option.some.inj e).symm
    rw [upd_ne (ne_of_none e hc), upd_ne b1]
    exact e
  · rw [upd_ne (ne_of_none e hc)]
    by_cases b1 : b = P
    · rw [b1, upd_same]
      exact ⟨_, rfl⟩
    · rw [upd_ne b1]
      exact ⟨qs, e⟩
theorem table_tx {P c' : Addr} {ps : Array Value} {q : Str} {pos : Pos} (hP : H P = some (.tbl ps)) (hc : H c' = none) (ht : TriplesOk ps.toList) (hm : (P, q) ∈ TN.T) : TX H (upd (upd H P (.tbl (ps ++ #[rawInt pos.line, rawInt pos.col, .ref c']))) c' (LamX.CodeO c' q)) := fun p hp ⟨qs, a1, a2, a3⟩ => by
  have ex := table_ex (more := #[rawInt pos.line, rawInt pos.col, .ref c']) (q := q) hP hc
  have np : P ≠ c' := ne_of_none hP hc
  by_cases b1 : p.1 = P
  · have eq : p.2 = q := TN.fn p hp _ hm b1
    have e2 : qs = ps := by
      rw [b1, hP] at a1
      have z := Option.some.inj a1
      cases z
      rfl
    subst e2
    rw [b1, eq]
    have el : (qs ++ #[rawInt pos.line, rawInt pos.col, .ref c']).toList = qs.toList ++ [rawInt pos.line, rawInt pos.col, .ref c'] := by simp
    refine ⟨_, (upd_ne np).trans upd_same, by rw [el]; exact PySem.TriplesOk_snoc _ _ _ _ ht, fun p' cv hcv => ?_⟩
    rw [el] at hcv
    rcases LamX.among_app _ ht hcv with z | z
    · obtain ⟨c0, e1, e2⟩ := a3 p' cv z
      exact ⟨c0, e1, ex.k _ _ (by rw [← eq]; exact e2) LamX.codeO_ne⟩
    · exact ⟨c', z, upd_same⟩
  · refine ⟨qs, ?_, a2, fun p' cv hcv => ?_⟩
    · rw [upd_ne (ne_of_none a1 hc), upd_ne b1]
      exact a1
    · obtain ⟨c0, e1, e2⟩ := a3 p' cv hcv
      exact ⟨c0, e1, ex.k _ _ e2 LamX.codeO_ne⟩
/-- the lambda is made -/
theorem lam_mk {c P : Addr} {params : Arguments} {body : Expr} {scope : Scope} {pos : Pos} {E : Value → Shared → Prop} {Q : Value → Shared → Prop} (I : Inv X pins σ H s) (TB : LamX.TabB X.base X.mg c P) (hcode : X.env.code = .ref c)
    (hm : (P, lq X) ∈ TN.T) (hT : LamX.Tabs TN.T H) (hdef : defaultsOf params X.env = ([], [])) (hfree : ∀ y ∈ scope.names, y.2 = .free → ∃ c, X.env.cells.lookup y.1 = some c)
    (h : ∀ (f c' : Addr) (pm ctv : Value) (H1 : Hp) (t : Shared), Inv X pins σ H1 t → Ex H H1 → TX H H1 → t.heap.get? f = some (PySem.W.kla_obj "<lambda>" (lq X) params body scope (cloFrom X.env.cells scope.names []) pm c' ctv) → H1 f = none → f ∉ frs X.stack → H1 c' = some (LamX.CodeO c' (lq X)) → Q (.ref f) t) :
    wpAny (model X.prog X.w) X.A (eval (.Lambda params body scope pos) X.env) Q E s := by
  obtain ⟨ps, hP, ht, ha⟩ := hT _ hm
  have clo := closure_ok hfree
  have bIn : s.heap.BuiltinsAt X.mg P := TB.bm.keeps I.bk
  have pIn : s.heap.get? P = some { cls := .none, data := .fields ps } := I.hok P _ hP
  have out : ∀ f, s.heap.objs.size ≤ f → f ∉ frs X.stack := fun f hf z => by
    rcases List.mem_cons.mp (I.stkSub _ z) with e | e
    · have h1 := I.lt
      rw [← e] at h1
      exact absurd hf (Nat.not_le_of_lt h1)
    · exact I.nofs hf e
  refine PySem.W.kla_eval hdef ?_
  cases hc : codeAmong pos ps.toList with
  | some cv =>
    obtain ⟨c', rfl, hco⟩ := ha pos cv hc
    refine PySem.W.kla_makeFunctionHit (mg := X.mg) (c := c) (P := P) (ps := ps) clo I.ok.glob (I.mod.glob.keeps I.bk) hcode (TB.code.keeps I.bk) pIn ht hc bIn fun ctv h' tk hx hsz => ?_
    exact h h'.objs.size c' ((X.mg "__name__").getD .none) ctv H _ (I.kept (t' := tk) fun b o e => Heap.get?_push_of_some _ (hx b o e)) (Ex.refl H) (TX.refl H) (Heap.get?_push_size _ rfl) (I.hok.fresh hsz) (out _ hsz) hco
  | none =>
    refine PySem.W.kla_makeFunction (mg := X.mg) (c := c) (P := P) (ps := ps) clo I.ok.glob (I.mod.glob.keeps I.bk) hcode (TB.code.keeps I.bk) pIn ht hc TB.gP bIn fun c' ctv h' tk hx hge hlt hrec htb => ?_
    obtain ⟨c2, oc, vs, t, e2, hoc, hd, hv⟩ := hrec
    cases e2
    have hsz : s.heap.objs.size ≤ h'.objs.size := Nat.le_trans hge (Nat.le_of_lt hlt)
    have nC : H c' = none := I.hok.fresh hge
    refine h h'.objs.size c' ((X.mg "__name__").getD .none) ctv _ _ (LamX.inv_table (t' := tk) I hP (fun b o hb e => Heap.get?_push_of_some _ (hx b o hb e)) (Heap.get?_push_of_some _ htb) hge ⟨oc, vs, t, Heap.get?_push_of_some _ hoc, hd, hv⟩)
      (table_ex hP nC) (table_tx hP nC ht hm) (Heap.get?_push_size _ rfl) ?_ (out _ hsz) upd_same
    have n1 : h'.objs.size ≠ c' := Nat.ne_of_gt hlt
    have n2 : h'.objs.size ≠ P := Nat.ne_of_gt (Nat.lt_of_lt_of_le (Heap.lt_size pIn) hsz)
    rw [upd_ne n1, upd_ne n2]
    exact I.hok.fresh hsz
end

section
variable {X : Cx} {pins : List (Addr × Obj)} {σ : L2.St} {H : Hp} {s : Shared}
/-- a(), in the def that got the lambda as a: the lambda's body by its reading, what is raised goes where that def is -/
theorem deed_w {Eg : XK} {Ng : List Str} {qg : Str} {sg : Scope} {ga f c' : Addr} {cdg pm ctv : Value} {params : Arguments} {body : Expr} {scope : Scope} {k i : Nat} {a : Str} {pn : List (Addr × Obj)} {xe : Value → Shared → Prop} {W : WX} {p1 p2 : Pos} {σZ : L2.St} {HZ : Hp} {Q : VK}
    (I : Inv X pins σ H s) (L : LamX.LamS X.env.scope scope) (hf : s.heap.get? f = some (PySem.W.kla_obj "<lambda>" (lq X) params body scope (cloFrom X.env.cells scope.names []) pm c' ctv)) (hfn : H f = none) (hfr : f ∉ frs X.stack)
    (hbind : bindArgs (PySem.W.kla_fn "<lambda>" (lq X) params body scope (cloFrom X.env.cells scope.names []) pm (.ref c') ctv) ⟨[], []⟩ = pure [])
    (tk : Takes ((cxOf C8.CX0 X.prog X.w X.K X.mg X.base Ng qg sg ga cdg X.A X.stack s H Eg).tr pn xe) W) (hr : Room (k + 1) (X.A.deeper (envOfC qg sg s.heap.objs.size ga cdg)))
    (hN : Ng[i]? = some a) (hv : Vis sg a) (hd : (a == ("__debug__" : Str)) = false) (hcd : (a == ("__classdict__" : Str)) = false)
    (hs : σZ[i]? = some (some (.ref f))) (hc : HZ c' = some (LamX.CodeO c' (lq X)))
    (hb : ∀ (A : Around) (outer : List PySem.Env) (t : Shared), Room k (A.deeper (LamX.lamEnv X scope t.heap.objs.size f c')) → wE (LamX.lamCx X A outer t HZ (WE W σZ) scope f c') body σ HZ Q) :
    wE ((cxOf C8.CX0 X.prog X.w X.K X.mg X.base Ng qg sg ga cdg X.A X.stack s H Eg).tr pn xe) (.Call (.Name a p1) [] [] p2) σZ HZ Q := by
  intro pinsZ sZ IZ
  refine wpAny_Call_Name_kw (thn ((pe_var (pos := p1) (i := i) hN hv hd hcd).run pinsZ sZ σZ HZ (fun v H1 => v = .ref f ∧ H1 = HZ) IZ ⟨.ref f, hs, rfl, rfl⟩) fun u t1 ⟨v, H1, I1, r1, ev, eH⟩ => ?_)
  subst ev
  rw [eH] at I1
  obtain rfl : u = Value.ref f := r1
  have lam : t1.heap.get? f = some (PySem.W.kla_obj "<lambda>" (lq X) params body scope (cloFrom X.env.cells scope.names []) pm c' ctv) := I1.base.keep f _ hf hfn hfr (fun z => nomatch (show f ∈ ([] : List Addr) from z))
  have un : Un (frs X.stack) [] H HZ s.heap t1.heap := I1.base
  obtain ⟨⟨oc, vs, t, hoc, hdc, hvc⟩, _, _⟩ := I1.hok c' _ hc
  have rc : codeAny (model X.prog X.w) (X.A.deeper (envOfC qg sg s.heap.objs.size ga cdg)) (.call (.ref f) ⟨[], []⟩) (L2.CR (L2.CX X.prog X.w) (envOfC qg sg s.heap.objs.size ga cdg :: X.stack) X.prog X.w HZ t1 Q (WE W σZ)) t1 := by
    refine PySem.W.kla_callFunE hr.depth lam rfl L.co L.gen rfl ⟨c', oc, vs, t, rfl, hoc, hdc, hvc⟩ ?_
    rw [hbind]
    refine wpAny_pure (wpAny_newFunctionEnv (fun y hy => (L.own y hy).2) (fun y hy => absurd hy (by simp)) (fun h1 hns hsb => ⟨I1.nolimit.fresh _ hsb, ?_⟩) L.kind)
    show codeAny _ _ (.expr body (LamX.lamEnv X scope t1.heap.objs.size f c')) _ _
    have kp : ∀ b o, t1.heap.get? b = some o → h1.get? b = some o := fun b o e => hsb.extBut b o (Nat.ne_of_lt (Heap.lt_size e)) (Heap.get?_push_of_some _ e)
    have J : Inv (LamX.lamCx X (X.A.deeper (envOfC qg sg s.heap.objs.size ga cdg)) (envOfC qg sg s.heap.objs.size ga cdg :: X.stack) t1 HZ (WE W σZ) scope f c') [] σ HZ { t1 with heap := h1, toks := t1.toks + ([] : List (Str × Value)).length } :=
      LamX.lam_start2 I L I1.env0 hr.hd un hns kp
    refine PySem.W.kla_codeExpr (wpAny_mono (hb _ _ t1 (hr.deeper _) [] _ J) (fun v t3 hq => ?_) fun e t3 hq => hq)
    obtain ⟨w', H', J', rv, q⟩ := hq
    exact ⟨w', H', J'.os, J'.bare, J'.base, J'.hok, rv, q⟩
  refine PySem.W.callWith_F0 ⟨_, _, _, _, lam⟩ (wpAny_call (codeAny_mono rc fun r t2 got => ?_))
  · cases r with
    | error e => exact passAt tk σZ pinsZ HZ t1 e t2 I1 got
    | ok fl =>
      cases fl with
      | ret u => exact I1.after got
      | _ => exact False.elim got
end
/-- the lambda's body's place -/
abbrev gLam (g : G) (A : Around) (outer : List PySem.Env) (t : Shared) (H : Hp) (E : XK) (scope : Scope) (f c' : Addr) : G :=
  ⟨LamX.lamCx g.X A outer t H E scope f c', g.C, fun cl d _ H' => E cl d H', g.B, g.F0, takes_of rfl rfl rfl rfl, false, (fun z => nomatch z), g.hT⟩
/-- the place of the body of the def that gets it -/
abbrev gTold (g : G) (Ng : List Str) (x : Str) (sg : Scope) (ga : Addr) (cdg : Value) (s : Shared) (H F0 : Hp) (hT : LamX.Tabs TN.T H) : G :=
  ⟨cxOf C8.CX0 g.X.prog g.X.w g.X.K g.X.mg g.X.base Ng x sg ga cdg g.X.A g.X.stack s H C8.E0, g.C, fun _ _ _ _ => False, H, F0, LamX.takes0, g.b, g.gd, hT⟩
/-- in a try, a() gives r -/
def Deed (g : G) (a : Str) (f : Addr) (r : R D) : Prop := ∀ pn xe W tk Γ p1 p2, Γ[0]? = some (.r f) → CE (g.tr pn xe W tk) (.Call (.Name a p1) [] [] p2) Γ r
section
variable {g : G} {Γ : List Sl}
/-- x(lambda: body), x a def of one parameter that calls it within a try: m makes of the body's result what x returns -/
theorem ce_told {x a : Str} {ga c P : Addr} {k : Nat} {pg : Arguments} {bg : List Stmt} {sg : Scope} {fd : FuncData} {Ng : List Str} {params : Arguments} {body : Expr} {scope : Scope} {p lpos pos : Pos} {r : R D} {m : R D → R D} {mb : R D → R (Fl D Unit)}
    (FD : FunD g.X.K x x pg bg sg [] [] ga fd) (hb : Binds g.X.K fd [a] []) (Sg : FnScope Ng [a] sg) (hNg : Ng[0]? = some a) (hm : g.X.mg x = some (.ref ga)) (TB : LamX.TabB g.X.base g.X.mg c P) (hcode : g.X.env.code = .ref c) (hmT : (P, lq g.X) ∈ TN.T)
    (hr : Room (k + 2) g.X.A) (L : LamX.LamS g.X.env.scope scope) (hdef : defaultsOf params g.X.env = ([], []))
    (hbind : ∀ (q : Str) (cl : List (Str × Addr)) (pm cv ctv : Value), bindArgs (PySem.W.kla_fn "<lambda>" q params body scope cl pm cv ctv) ⟨[], []⟩ = pure [])
    (hbody : ∀ A outer t H E f c', Room k (A.deeper (LamX.lamEnv g.X scope t.heap.objs.size f c')) → CE (gLam g A outer t H E scope f c') body Γ r)
    (em : m r = fin (mb r).calm) (htold : ∀ (cdg : Value) (s : Shared) (H F0 : Hp) (hT : LamX.Tabs TN.T H) (f : Addr), Deed (gTold g Ng x sg ga cdg s H F0 hT) a f r → CB (gTold g Ng x sg ga cdg s H F0 hT) (ζD g.X.K g.C) (fun _ : Unit => List.replicate Ng.length Sl.no) bg (.r f :: List.replicate (Ng.length - 1) Sl.no) (mb r))
    (hg : Gl g.X x := by rfl) (hdb : (x == ("__debug__" : Str)) = false := by decide) (hd : (a == ("__debug__" : Str)) = false := by decide) (hcd : (a == ("__classdict__" : Str)) = false := by decide) :
    CE g (.Call (.Name x p) [.Lambda params body scope lpos] [] pos) Γ (m r) := by
  refine .mk fun F H σ Q E post pins s I => ?_
  obtain ⟨oc, od, dV, kV, doc, pm, an, cdv, ct, osl, rfl, lk, hcg, _, _⟩ := FD.ex
  refine wpAny_Call_Name_kw (ld_glob I hg hm ?_ hdb)
  refine PySem.W.callWith_K (h₀ := g.X.base) I.ok.mod.kin FD.kp ?_ (by rfl) (by rfl)
  show wpAny _ _ (spliced ((false, eval (.Lambda params body scope lpos) g.X.env) :: backTo pos (starEach [] g.X.env))) _ _ s
  refine Calls.spliced_cons (lam_mk I TB hcode hmT (g.tabs E.toBas) hdef (L.has I.ok) fun f c' pm' ctv H1 s' I1 x1 t1 hf hfn hfr hco => Calls.spliced_nil ⟨I1.kIn, ?_⟩)
  have gr : Gr F H F H1 := ⟨Ex.refl _, x1, E.ef.trans x1, fun _ _ _ q => q, t1⟩
  have E1 : g.Env F H1 σ Γ := E.grow gr
  have hT1 : LamX.Tabs TN.T H1 := g.tabs E1.toBas
  have hva : Vis sg a := by
    rcases Sg.par a (List.mem_singleton_self a) with q | q
    · exact .inl q
    · exact .inr (.inl q)
  have nl : 1 ≤ Ng.length := (List.getElem?_eq_some_iff.mp hNg).1
  refine wpAny_call (codeAny_mono (LamX.run_ofS (N := Ng) (ps := [a]) (us := [.ref f]) (vs := [.ref f]) (CX := C8.CX0) (E := C8.E0) (Q := Q) lk hcg Sg hr I1.env0 (hb s' [.ref f] I1.kIn rfl) (.cons rfl .nil) rfl fun hr' => ⟨_, pss_w _ _, ?_⟩) fun r0 s2 got => ?_)
  · have deed : Deed (gTold g Ng x sg ga cdv s' H1 F hT1) a f r := fun pn xe W tk Γ2 p1 p2 h0 => .mk fun FZ HZ σZ QZ EZ pz => by
      obtain ⟨o, hσ, ho⟩ := EZ.sl 0 _ h0
      have ho' : o = some (.ref f) := ho
      subst ho'
      have grZ : Gr F H1 FZ HZ := ⟨EZ.e0, EZ.eb, EZ.ef, EZ.fr, EZ.tb⟩
      refine deed_w I1 L hf hfn hfr (hbind _ _ _ _ _) tk hr' hNg hva hd hcd hσ (EZ.eb.at hco) fun A outer t hr2 => hbody A outer t HZ (WE W σZ) f c' hr2 FZ HZ σ QZ (E1.grow grZ) ?_
      cases r with
      | ok v => exact pz
      | ex c v => exact pz
      | un => exact pz
    have start1 : EnvOk g.X.K g.C H1 F F H1 (L2.start Ng [V.ref f]) (.r f :: List.replicate (Ng.length - 1) Sl.no) := by
      refine ⟨⟨Ex.refl _, Ex.refl _, E1.ef, fun _ _ _ q => q, TX.refl _⟩, by simp [L2.start], fun i t h => ?_, fun i j t u b n e1 e2 o1 o2 _ _ => ?_⟩
      · cases i with
        | zero =>
          cases h
          exact ⟨some (.ref f), rfl, rfl⟩
        | succ i =>
          have h' : (List.replicate (Ng.length - 1) Sl.no)[i]? = some t := h
          rw [List.getElem?_replicate] at h'
          split at h'
          · rename_i hi
            cases h'
            refine ⟨none, ?_, trivial⟩
            show (List.replicate (Ng.length - 1) none)[i]? = _
            rw [List.getElem?_replicate, if_pos hi]
          · cases h'
      · cases i with
        | zero =>
          cases e1
          exact absurd (show false = true from o1) Bool.false_ne_true
        | succ i =>
          have h' : (List.replicate (Ng.length - 1) Sl.no)[i]? = some t := e1
          rw [List.getElem?_replicate] at h'
          split at h'
          · cases h'
            exact absurd (show false = true from o1) Bool.false_ne_true
          · cases h'
    refine htold cdv s' H1 F hT1 f deed F H1 _ _ start1 ?_
    have post1 : Post g (rD g.X.K g.C) F H1 σ Q (fin (mb r).calm) := by
      rw [← em]
      exact post.mono gr
    have fin0 : ∀ {F' H' : Hp}, Bas H1 F F' H' → Gr F H1 F' H' := fun b => ⟨b.e0, b.eb, b.ef, b.fr, b.tb⟩
    cases q : mb r with
    | ok fl =>
      rw [q] at post1
      cases fl with
      | nx u => exact fun σ' F' H' x E' => post1 _ F' H' (fin0 E'.toBas) .non
      | rt d => exact fun v F' H' b rv => post1 v F' H' (fin0 b) rv
    | ex c x =>
      rw [q] at post1
      exact (show False from post1).elim
    | un =>
      rw [q] at post1
      exact post1
  · cases r0 with
    | error e => exact (show False from got).elim
    | ok fl =>
      cases fl with
      | ret u => exact I1.after got
      | _ => exact False.elim got
end
end DL
end
section
set_option Elab.async false
set_option linter.all false
set_option maxRecDepth 100000
set_option maxHeartbeats 4000000
set_option autoImplicit false
namespace DL
open PySem PySem.Spec PyProof.Rows L2
variable [TN]

/-! ## a tuple repeated, however often -/
theorem tup_mul_same (l : Addr) (items : Array Value) (n : Nat) (dd : Option Addr) (sl : Array (Option Value)) (x : Int) (u : Tok) (c0 : (decide (x < -(2 ^ 63)) || decide (x ≥ 2 ^ 63)) = false) (c1 : (items.isEmpty || x == 1) = true) :
    Meets (Builtin.«tuple.__mul__» ⟨[.ref l, .int x u], []⟩) (fun _ R s => s.heap.get? l = some { cls := .type "tuple", dict := dd, data := .seq items n, slots := sl } ∧ R (.ok (.ret (.ref l))) s) :=
  .of_wp fun prog w A R s h => by
    obtain ⟨hp, g, d, tk, os⟩ := s
    obtain ⟨hl, h⟩ := h
    have f1 := AutoSeq1.idx_int
    wp_walk using wpAny_loadPart' hl
    repeat (first
      | (refine wpAny_ite_false (decide_eq_false (by rw [c0]; exact Bool.false_ne_true)) ?_; wp_walk using wpAny_loadPart' hl)
      | (refine wpAny_ite_true (decide_eq_true c1) ?_; wp_walk using wpAny_loadPart' hl))
    exact ⟨_, rfl, h⟩
theorem tup_mul_zero (l : Addr) (items : Array Value) (n : Nat) (dd : Option Addr) (sl : Array (Option Value)) (x : Int) (u : Tok) (c0 : (decide (x < -(2 ^ 63)) || decide (x ≥ 2 ^ 63)) = false) (c1 : (items.isEmpty || x == 1) = false) (c2 : (decide (x ≤ 0) || items.isEmpty) = true) :
    Meets (Builtin.«tuple.__mul__» ⟨[.ref l, .int x u], []⟩) (fun _ R s => s.heap.get? l = some { cls := .type "tuple", dict := dd, data := .seq items n, slots := sl } ∧
      R (.ok (.ret (Value.ref s.heap.objs.size))) { s with heap := s.heap.push { cls := Value.type "tuple", data := Data.seq #[] }, toks := s.toks }) :=
  .of_wp fun prog w A R s h => by
    obtain ⟨hp, g, d, tk, os⟩ := s
    obtain ⟨hl, h⟩ := h
    have f1 := AutoSeq1.idx_int
    wp_walk using wpAny_loadPart' hl
    repeat (first
      | (refine wpAny_ite_false (decide_eq_false (by rw [c0]; exact Bool.false_ne_true)) ?_; wp_walk using wpAny_loadPart' hl)
      | (refine wpAny_ite_false (decide_eq_false (by rw [c1]; exact Bool.false_ne_true)) ?_; wp_walk using wpAny_loadPart' hl)
      | (refine wpAny_ite_true (decide_eq_true c2) ?_; wp_walk using wpAny_loadPart' hl))
    exact ⟨_, rfl, h⟩
def rRepA (K : PySem.W.Frag) : R2 := fun x y H Q => ∃ l k xs, x = .ref l ∧ y = .int k ∧ SqT K H l xs ∧ -1000000000 ≤ k ∧ k ≤ 10000000 ∧ xs.length * k.toNat ≤ 10000000 ∧
  (xs = [] → Q (.ref l) H) ∧ (k = 1 → Q (.ref l) H) ∧ (xs ≠ [] → k ≠ 1 → ∀ p, H p = none → Q (.ref p) (upd H p (.tup (List.replicate k.toNat xs).flatten)))
theorem op_repA {X : Cx} : OpR X (binaryOp .Mult) (rRepA X.K) := by
  intro pins s σ H x y v u Q I rx ry h
  obtain ⟨l, k, xs, rfl, rfl, hT, h1, h2, hz, q0, q1, q2⟩ := h
  cases rx
  obtain ⟨t, rfl⟩ := ry
  obtain ⟨its, r, ⟨⟨cls, dd, data, sl⟩, ho, hc, n, hd⟩, hs⟩ := I.tuple hT
  simp only at hc hd
  subst hc hd
  have hle : its.length = xs.length := r.length.symm
  have c0 : (decide (k < -(2 ^ 63)) || decide (k ≥ 2 ^ 63)) = false := by
    rw [decide_eq_false (by omega), decide_eq_false (by omega)] <;> rfl
  have hem : its.toArray.isEmpty = decide (xs = []) := by
    cases its with
    | nil =>
      have e : xs = [] := List.eq_nil_of_length_eq_zero hle.symm
      simp [e]
    | cons a b =>
      have e : xs ≠ [] := fun z => by
        rw [z] at hle
        cases hle
      simp [e]
  cases c1 : (its.toArray.isEmpty || k == 1) with
  | true =>
    have q : Q (.ref l) H := by
      rcases Bool.or_eq_true_iff.mp c1 with z | z
      · rw [hem] at z
        exact q0 (of_decide_eq_true z)
      · exact q1 (eq_of_beq z)
    exact wpAny_binaryOp_repeat_ref (T := "tuple") (U := "int") (by decide) ⟨_, ho, rfl⟩ (fun s' => typeIs_int s' k t) noFill_tuple_mul F.fills_int_mul F.slot_int_rmul repeat_tuple F.slot_int_index.lookup
      (call_meets F.slot_int_rmul (typeIs_int s k t) F.entry_int_rmul (F.args_int_rmul_2 _ _) (int_rmul_tuple k t l its.toArray n dd sl)
        ⟨ho, rfl, ⟨_, ho, rfl⟩, call_meets F.slot_tuple_mul ⟨_, ho, rfl⟩ F.entry_tuple_mul (F.args_tuple_mul_2 _ _) (tup_mul_same l its.toArray n dd sl k t c0 c1) ⟨ho, ⟨.ref l, H, I, rfl, q⟩⟩⟩)
  | false =>
    obtain ⟨n1, n2⟩ := Bool.or_eq_false_iff.mp c1
    have ne : xs ≠ [] := by
      rw [hem] at n1
      exact of_decide_eq_false n1
    have nk : k ≠ 1 := fun z => by
      rw [z] at n2
      cases n2
    have road := fun {Q : Value → Shared → Prop} {E : Value → Shared → Prop} (go : wpAny (model X.prog X.w) X.A (call (.builtin "tuple.__mul__") [.ref l, .int k t]) Q E s) => go
    by_cases k0 : k ≤ 0
    · have c2 : (decide (k ≤ 0) || its.toArray.isEmpty) = true := by rw [decide_eq_true k0, Bool.true_or]
      refine wpAny_binaryOp_repeat_ref (T := "tuple") (U := "int") (by decide) ⟨_, ho, rfl⟩ (fun s' => typeIs_int s' k t) noFill_tuple_mul F.fills_int_mul F.slot_int_rmul repeat_tuple F.slot_int_index.lookup
        (call_meets F.slot_int_rmul (typeIs_int s k t) F.entry_int_rmul (F.args_int_rmul_2 _ _) (int_rmul_tuple k t l its.toArray n dd sl)
          ⟨ho, rfl, ⟨_, ho, rfl⟩, call_meets F.slot_tuple_mul ⟨_, ho, rfl⟩ F.entry_tuple_mul (F.args_tuple_mul_2 _ _) (tup_mul_zero l its.toArray n dd sl k t c0 c1 c2) ⟨ho, ?_⟩⟩)
      have e0 : (List.replicate k.toNat xs).flatten = [] := by
        rw [Int.toNat_of_nonpos k0]
        rfl
      have new := q2 ne nk _ (I.hok.fresh (Nat.le_refl s.heap.objs.size))
      rw [e0] at new
      exact ⟨.ref s.heap.objs.size, _, I.laid (t' := s.toks) (o := .tup []) (fun b ob q => Heap.get?_push_of_some _ q) (Nat.le_refl _) ⟨Nat.zero_le _, [], .nil, IsTup.new _ _⟩, rfl, new⟩
    · have c2 : (decide (k ≤ 0) || its.toArray.isEmpty) = false := by
        rw [n1, Bool.or_false]
        exact decide_eq_false k0
      have hsz0 : its.toArray.size = xs.length := by rw [List.size_toArray, hle]
      have hk : (k.toNat : Int) = k := Int.toNat_of_nonneg (by omega)
      have hm : ((its.toArray.size : Nat) : Int) * k ≤ 10000000 := by
        rw [hsz0, ← hk, ← Int.natCast_mul]
        exact Int.ofNat_le.mpr hz
      have flen : (List.replicate k.toNat its).flatten.length ≤ sizeLine := by
        rw [PyProof.Rows.lm_len_rep_flat, hle, sizeLine_eq, Nat.mul_comm]
        omega
      have c4 : Builtin.Tuple.tupleTooMany (((its.toArray.size : Nat) : Int) * k) = false := by
        unfold Builtin.Tuple.tupleTooMany
        rw [sizeLine_eq]
        exact decide_eq_false (by omega)
      refine wpAny_binaryOp_repeat_ref (T := "tuple") (U := "int") (by decide) ⟨_, ho, rfl⟩ (fun s' => typeIs_int s' k t) noFill_tuple_mul F.fills_int_mul F.slot_int_rmul repeat_tuple F.slot_int_index.lookup
        (call_meets F.slot_int_rmul (typeIs_int s k t) F.entry_int_rmul (F.args_int_rmul_2 _ _) (int_rmul_tuple k t l its.toArray n dd sl)
          ⟨ho, rfl, ⟨_, ho, rfl⟩, call_meets F.slot_tuple_mul ⟨_, ho, rfl⟩ F.entry_tuple_mul (F.args_tuple_mul_2 _ _) (tuple_mulW l its.toArray n dd sl k t c0 c1 c2 (by omega) c4 (by rw [size_rep, List.size_toArray]; exact flen)) ⟨ho, ?_⟩⟩)
      rw [size_rep]
      exact ⟨.ref s.heap.objs.size, _, I.laid (t' := s.toks) (o := .tup (List.replicate k.toNat xs).flatten) (fun b ob q => Heap.get?_push_of_some _ q) (Nat.le_refl _)
        ⟨by rw [PyProof.Rows.lm_len_rep_flat, sizeLine_eq, Nat.mul_comm]; omega, _, r.rep k.toNat, IsTup.new _ _⟩, rfl, q2 ne nk _ (I.hok.fresh (Nat.le_refl _))⟩
/-- data times a whole number -/
def D.mulA : D → D → Option D
  | .int i, .int j => D.mul (.int i) (.int j)
  | .tup l, .int k => if k.natAbs ≤ 10000000 ∧ l.length * k.toNat ≤ 10000000 then some (.tup (List.replicate k.toNat l).flatten) else none
  | _, _ => none
theorem od_mulA {X : Cx} {C : Ctab} : OpD X (binaryOp .Mult) (rD X.K C) (rD X.K C) (rD X.K C) D.mulA := by
  obtain ⟨rm, h1, h2⟩ := od_mul (X := X) (C := C)
  refine ⟨_, h1.or op_repA, fun F H H0 H1 x y dx dy Q e r1 r2 p => ?_⟩
  cases dy <;> try (cases dx <;> exact (show False from p).elim)
  rename_i k
  cases dx <;> try (exact (show False from p).elim)
  · rename_i i
    exact .inl (h2 F H H0 H1 x y _ _ Q e r1 r2 p)
  · rename_i l
    unfold D.mulA at p
    dsimp only at p
    split at p
    · rename_i hc
      cases r1 with
      | @tup a vs _ t1 a1 =>
        refine .inr ⟨a, k, vs, rfl, int_of r2, ex_t e t1, by omega, by omega, by rw [a1.length]; exact hc.2, fun z => ?_, fun z => ?_, fun _ _ q hq => ?_⟩
        · subst z
          cases a1
          have e0 : (List.replicate k.toNat ([] : List D)).flatten = [] := by simp
          rw [e0] at p
          exact fin_here p e (.tup t1 .nil)
        · subst z
          have e0 : (List.replicate (1 : Int).toNat l).flatten = l := by simp
          rw [e0] at p
          exact fin_here p e (.tup t1 a1)
        · have gr : Gr F H (upd F q (.tup (List.replicate k.toNat vs).flatten)) (upd H q (.tup (List.replicate k.toNat vs).flatten)) := Gr.alloc e hq
          exact p _ _ _ gr (.tup (SqT.of upd_same) ((a1.rep _).mono gr.f))
    · exact (show False from p).elim

/-! ## in -/
/-- flat data -/
def D.flat : D → Bool
  | .non => true
  | .bl _ => true
  | .int _ => true
  | .str _ => true
  | _ => false
def D.eqF : D → D → Bool
  | .non, .non => true
  | .bl a, .bl b => a == b
  | .bl a, .int b => (if a then 1 else 0) == b
  | .int a, .bl b => a == (if b then 1 else 0)
  | .int a, .int b => a == b
  | .str a, .str b => a == b
  | _, _ => false
section
variable {K : PySem.W.Frag} {C : Ctab} {F : Hp}
theorem flat_V {v : V} {d : D} (r : Rp K C F v d) (h : d.flat = true) : flatV v = true := by
  cases r <;> first | rfl | (cases h)
theorem eqF_V {v u : V} {x y : D} (r1 : Rp K C F v x) (r2 : Rp K C F u y) (h1 : x.flat = true) (h2 : y.flat = true) : eqV v u = D.eqF x y := by
  cases r1 <;> cases r2 <;> first | rfl | (cases h1; done) | (cases h2; done)
theorem flats_V : ∀ {vs : List V} {ds : List D}, RpA K C F vs ds → ds.all D.flat = true → vs.all flatV = true
  | _, _, .nil, _ => rfl
  | _, _, .cons r t, h => by
    rw [List.all_cons, Bool.and_eq_true] at h ⊢
    exact ⟨flat_V r h.1, flats_V t h.2⟩
theorem any_V {v : V} {x : D} (r : Rp K C F v x) (hx : x.flat = true) : ∀ {vs : List V} {ds : List D}, RpA K C F vs ds → ds.all D.flat = true → inV v vs = ds.any fun y => D.eqF y x
  | _, _, .nil, _ => rfl
  | _, _, .cons r1 t, h => by
    rw [List.all_cons, Bool.and_eq_true] at h
    unfold inV
    rw [List.any_cons, List.any_cons, eqF_V r1 r h.1 hx]
    have ih := any_V r hx t h.2
    unfold inV at ih
    rw [ih]
end
/-- x in y -/
def D.inB : D → D → Option Bool
  | .str x, .str z => if x.cps.size = 1 then some (decide (x.cps[0]! ∈ z.cps.toList)) else none
  | x, .tup l => if x.flat = true ∧ l.all D.flat = true then some (l.any fun y => D.eqF y x) else (match x.okPy, (D.tup l).okPy with
    | some p, some (.tuple ps) => some (ps.any fun z => PyData.eqv z p)
    | _, _ => none)
  | x, .lst l => if x.flat = true ∧ l.all D.flat = true then some (l.any fun y => D.eqF y x) else (match x.okPy, (D.lst l).okPy with
    | some p, some (.list ps) => some (ps.any fun z => PyData.eqv z p)
    | _, _ => none)
  | _, _ => none
def D.inn (x y : D) : Option D := (D.inB x y).map D.bl
def D.notin (x y : D) : Option D := (D.inB x y).map fun b => D.bl (!b)
section
variable {X : Cx} {C : Ctab}
theorem sign_eq {x : Str} (h : x.cps.size = 1) : x = ⟨#[x.cps[0]!]⟩ := by
  obtain ⟨a⟩ := x
  obtain ⟨l⟩ := a
  cases l with
  | nil => cases h
  | cons c t =>
    cases t with
    | nil => rfl
    | cons _ _ => cases h
theorem in_core {F H H0 H1 : Hp} {v u : V} {x y : D} {b : Bool} (r1 : (rD X.K C).r H0 F H v x) (r2 : (rR X.K C).r H1 F H u y) (e : Ex F H) (h : D.inB x y = some b) :
    (∃ (c : Nat) (z : Str), v = .str ⟨#[c]⟩ ∧ u = .str z ∧ decide (c ∈ z.cps.toList) = b) ∨ (∃ p xs, u = .ref p ∧ (SqL X.K H p xs ∨ SqT X.K H p xs) ∧ flatV v = true ∧ xs.all flatV = true ∧ inV v xs = b) ∨
      (∃ d ds, Dp X.K H v d ∧ Dp X.K H u (.list ds) ∧ SeqAt.shaped d = true ∧ SeqAt.shaped (.list ds) = true ∧ (ds.any fun z => PyData.eqv z d) = b) ∨
        ∃ d ds, Dp X.K H v d ∧ Dp X.K H u (.tuple ds) ∧ SeqAt.shaped d = true ∧ SeqAt.shaped (.tuple ds) = true ∧ (ds.any fun z => PyData.eqv z d) = b := by
  have r1' : Rp X.K C F v x := r1
  have r2' : Rp X.K C H u y := r2
  cases y with
  | str z =>
    cases x <;> try (cases h; done)
    rename_i s
    unfold D.inB at h
    dsimp only at h
    split at h
    · rename_i hs
      cases h
      exact .inl ⟨s.cps[0]!, z, by rw [str_of r1', ← sign_eq hs], str_of r2', rfl⟩
    · cases h
  | tup l =>
    have h' : (if x.flat = true ∧ l.all D.flat = true then some (l.any fun y => D.eqF y x) else (match x.okPy, (D.tup l).okPy with
      | some p, some (.tuple ps) => some (ps.any fun z => PyData.eqv z p)
      | _, _ => none)) = some b := by
      cases x <;> exact h
    split at h'
    · rename_i hf
      cases h'
      cases r2' with
      | tup h1 a1 => exact .inr (.inl ⟨_, _, rfl, .inr h1, flat_V r1' hf.1, flats_V a1 hf.2, any_V (r1'.mono e) hf.1 a1 hf.2⟩)
    · cases q1 : x.okPy with
      | none =>
        rw [q1] at h'
        cases h'
      | some p =>
        cases q2 : (D.tup l).okPy with
        | none =>
          rw [q1, q2] at h'
          cases h'
        | some ps =>
          rw [q1, q2] at h'
          cases ps <;> try (cases h'; done)
          rename_i ps
          cases h'
          exact .inr (.inr (.inr ⟨p, ps, Rp.dp (r1'.mono e) (okPy_of q1).1, Rp.dp r2' (okPy_of q2).1, (okPy_of q1).2, (okPy_of q2).2, rfl⟩))
  | lst l =>
    have h' : (if x.flat = true ∧ l.all D.flat = true then some (l.any fun y => D.eqF y x) else (match x.okPy, (D.lst l).okPy with
      | some p, some (.list ps) => some (ps.any fun z => PyData.eqv z p)
      | _, _ => none)) = some b := by
      cases x <;> exact h
    split at h'
    · rename_i hf
      cases h'
      cases r2' with
      | lst h1 a1 => exact .inr (.inl ⟨_, _, rfl, .inl (SqL.of h1), flat_V r1' hf.1, flats_V a1 hf.2, any_V (r1'.mono e) hf.1 a1 hf.2⟩)
    · cases q1 : x.okPy with
      | none =>
        rw [q1] at h'
        cases h'
      | some p =>
        cases q2 : (D.lst l).okPy with
        | none =>
          rw [q1, q2] at h'
          cases h'
        | some ps =>
          rw [q1, q2] at h'
          cases ps <;> try (cases h'; done)
          rename_i ps
          cases h'
          exact .inr (.inr (.inl ⟨p, ps, Rp.dp (r1'.mono e) (okPy_of q1).1, Rp.dp r2' (okPy_of q2).1, (okPy_of q1).2, (okPy_of q2).2, rfl⟩))
  | _ => cases x <;> cases h
def rInTD (K : PySem.W.Frag) : R2 := fun x y H Q => ∃ d ds, Dp K H x d ∧ Dp K H y (.tuple ds) ∧ SeqAt.shaped d = true ∧ SeqAt.shaped (.tuple ds) = true ∧ Q (.bl (ds.any fun z => PyData.eqv z d)) H
def rNotInTD (K : PySem.W.Frag) : R2 := fun x y H Q => ∃ d ds, Dp K H x d ∧ Dp K H y (.tuple ds) ∧ SeqAt.shaped d = true ∧ SeqAt.shaped (.tuple ds) = true ∧ Q (.bl (!ds.any fun z => PyData.eqv z d)) H
theorem op_inTD (hu : X.A.units + 65 < cLine) : OpR X (compareOp .In) (rInTD X.K) := by
  intro pins s σ H x y v u Q I rx ry h
  obtain ⟨d, ds, hd, he, sd, se, q⟩ := h
  obtain ⟨as, r1⟩ := Dp.reads I d x v hd rx
  obtain ⟨bs, r2⟩ := Dp.reads I (.tuple ds) y u he ry
  exact SeqAt.in_tuple_reads r2 r1 (SeqAt.canLay_of_shaped se) (SeqAt.canLay_of_shaped sd) (room_in_shaped sd hu) ⟨.bl _, H, I, rfl, q⟩
theorem op_notInTD (hu : X.A.units + 65 < cLine) : OpR X (compareOp .NotIn) (rNotInTD X.K) := by
  intro pins s σ H x y v u Q I rx ry h
  obtain ⟨d, ds, hd, he, sd, se, q⟩ := h
  obtain ⟨as, r1⟩ := Dp.reads I d x v hd rx
  obtain ⟨bs, r2⟩ := Dp.reads I (.tuple ds) y u he ry
  exact SeqAt.notIn_tuple_reads r2 r1 (SeqAt.canLay_of_shaped se) (SeqAt.canLay_of_shaped sd) (room_in_shaped sd hu) ⟨.bl _, H, I, rfl, q⟩
theorem od_in (hu : X.A.units + 65 < cLine) : OpD X (compareOp .In) (rD X.K C) (rR X.K C) (rD X.K C) D.inn := by
  refine ⟨_, op_in_sign.or (op_in_seq.or ((op_inD hu).or (op_inTD hu))), fun F H H0 H1 v u x y Q e r1 r2 p => ?_⟩
  unfold D.inn at p
  cases q : D.inB x y with
  | none =>
    rw [q] at p
    exact (show False from p).elim
  | some b =>
    rw [q] at p
    have z := fin_here p e (v := .bl b) (.bl b)
    rcases in_core r1 r2 e q with ⟨c, s, rfl, rfl, hb⟩ | ⟨p1, xs, rfl, hs, f1, f2, hb⟩ | ⟨d, ds, h1, h2, s1, s2, hb⟩ | ⟨d, ds, h1, h2, s1, s2, hb⟩
    · exact .inl ⟨c, s, rfl, rfl, by rw [hb]; exact z⟩
    · exact .inr (.inl ⟨p1, xs, rfl, hs, f1, f2, by rw [if_neg Bool.false_ne_true, hb]; exact z⟩)
    · exact .inr (.inr (.inl ⟨d, ds, h1, h2, s1, s2, by rw [hb]; exact z⟩))
    · exact .inr (.inr (.inr ⟨d, ds, h1, h2, s1, s2, by rw [hb]; exact z⟩))
theorem od_notin (hu : X.A.units + 65 < cLine) : OpD X (compareOp .NotIn) (rD X.K C) (rR X.K C) (rD X.K C) D.notin := by
  refine ⟨_, op_notIn_sign.or (op_notIn_seq.or ((op_notInD hu).or (op_notInTD hu))), fun F H H0 H1 v u x y Q e r1 r2 p => ?_⟩
  unfold D.notin at p
  cases q : D.inB x y with
  | none =>
    rw [q] at p
    exact (show False from p).elim
  | some b =>
    rw [q] at p
    have z := fin_here p e (v := .bl (!b)) (.bl (!b))
    rcases in_core r1 r2 e q with ⟨c, s, rfl, rfl, hb⟩ | ⟨p1, xs, rfl, hs, f1, f2, hb⟩ | ⟨d, ds, h1, h2, s1, s2, hb⟩ | ⟨d, ds, h1, h2, s1, s2, hb⟩
    · exact .inl ⟨c, s, rfl, rfl, by rw [hb]; exact z⟩
    · exact .inr (.inl ⟨p1, xs, rfl, hs, f1, f2, by rw [if_pos rfl, hb]; exact z⟩)
    · exact .inr (.inr (.inl ⟨d, ds, h1, h2, s1, s2, by rw [hb]; exact z⟩))
    · exact .inr (.inr (.inr ⟨d, ds, h1, h2, s1, s2, by rw [hb]; exact z⟩))

/-! ## repr -/
def D.shows (d : D) : Option Str := match d.py with
  | some p => if PyData.showable p = true ∧ p.shown.length ≤ lim ∧ p.depth ≤ 32 ∧ PyData.hasDict p = false then some p.shown else none
  | none => none
def D.repr (d : D) : Option D := d.shows.map D.str
theorem shows_of {d : D} {s : Str} (h : d.shows = some s) : ∃ p, d.py = some p ∧ PyData.showable p = true ∧ p.shown.length ≤ lim ∧ p.depth ≤ 32 ∧ PyData.hasDict p = false ∧ p.shown = s := by
  unfold D.shows at h
  cases q : d.py with
  | none =>
    rw [q] at h
    cases h
  | some p =>
    rw [q] at h
    dsimp only at h
    split at h
    · rename_i hc
      cases h
      exact ⟨p, rfl, hc.1, hc.2.1, hc.2.2.1, hc.2.2.2, rfl⟩
    · cases h
theorem call_reprD (hg : X.A.guards = some []) (hu : X.A.units + 64 < cLine) : CallR X (.builtin "repr") (fun xs H Q => ∃ v p, xs = [v] ∧ Dp X.K H v p ∧ PyData.showable p = true ∧ p.shown.length ≤ sizeLine ∧ p.depth ≤ 32 ∧ PyData.hasDict p = false ∧ Q (.str p.shown) H) := by
  intro pins s σ H xs us Q I r h
  obtain ⟨v, p, rfl, hd, h1, h2, h3, h4, q⟩ := h
  obtain ⟨u, rfl, ru⟩ := vals1 r
  obtain ⟨as, rd⟩ := Dp.reads I p v u hd ru
  cases rd with
  | none => exact PySem.P.repr_of_none ⟨.str _, H, I.tok _, ⟨_, rfl⟩, q⟩
  | bool b => exact PySem.P.repr_of_bool ⟨.str _, H, I.tok _, ⟨_, rfl⟩, q⟩
  | int i t => exact PySem.P.repr_of_int (of_decide_eq_true h1) ⟨.str _, H, I.tok _, ⟨_, rfl⟩, q⟩
  | str x t => exact PySem.P.repr_of_str ⟨.str _, H, I.tok _, ⟨_, rfl⟩, q⟩ h2
  | list e1 e2 e3 e4 =>
    exact PySem.repr_of_reads' (Reads.list e1 e2 e3 e4) h1 (fun z => by
      rw [h4] at z
      cases z) hg (by omega) (fun _ _ e => e) (fun h' t tk hk => ⟨.str _, H, I.kept (t' := tk) hk, ⟨t, rfl⟩, q⟩) h2
  | tuple e1 e2 e3 e4 =>
    exact PySem.repr_of_reads' (Reads.tuple e1 e2 e3 e4) h1 (fun z => by
      rw [h4] at z
      cases z) hg (by omega) (fun _ _ e => e) (fun h' t tk hk => ⟨.str _, H, I.kept (t' := tk) hk, ⟨t, rfl⟩, q⟩) h2
  | dict e1 e2 e3 e4 e5 => cases h4
theorem cd_repr (hg : X.A.guards = some []) (hu : X.A.units + 64 < cLine) : CallD X (.builtin "repr") (rR X.K C) (rD X.K C) D.repr := by
  refine ⟨_, call_reprD hg hu, fun F H H0 x dx Q e r1 p => ?_⟩
  unfold D.repr at p
  cases q : dx.shows with
  | none =>
    rw [q] at p
    exact (show False from p).elim
  | some s =>
    rw [q] at p
    obtain ⟨pd, e1, e2, e3, e4, e5, e6⟩ := shows_of q
    exact ⟨x, pd, rfl, Rp.dp r1 e1, e2, lim_line e3, e4, e5, by rw [e6]; exact fin_here p e (.str _)⟩
end
end DL
end
section
set_option Elab.async false
set_option linter.all false
set_option maxRecDepth 100000
set_option maxHeartbeats 4000000
set_option autoImplicit false
namespace DL
open PySem PySem.Spec PyProof.Rows L2
variable [TN]

/-! ## x = [e for ..], x a plain local name -/
section
variable {T S : Type} {g : G} {ζ : Ret T} {Γ : List Sl} {γ : S → List Sl} {elt tg iter : Expr} {ifs : List Expr} {scope : Scope} {pos spos p1 p3 : Pos} {sts : List Stmt}
theorem cb_setLc (ii i : Nat) {y n : Str} {rx : R (List D)} {t : D → R Bool} {e : D → R D} {k : List D → R (Fl T S)} (hi : CI g (.Name n p1) iter Γ rx) (nd : g.X.N.Nodup) (hc : g.X.calm = true) (hb : blkC g.X.N g.X.env.scope scope [(n, i)] = true)
    (ht : ∀ x s H0 C cl fp, CTs (g.blk s H0 scope (compEnvC scope cl C g.X.env) fp) ifs ((Γ.set i .no).set i (.d x)) (t x)) (he : ∀ x s H0 C cl fp, CE (g.blk s H0 scope (compEnvC scope cl C g.X.env) fp) elt ((Γ.set i .no).set i (.d x)) (e x))
    (hg : ∀ (s : Shared) (H : Hp) (C : Addr) (cl : List (Str × Addr)) (fp : List Addr), PG (g.X.blk s H scope (compEnvC scope cl C g.X.env) fp) (.Name n p1) (gName i))
    (h2 : ∀ x, CB g ζ γ sts (Γ.set ii (.l x)) (k x)) (hy : g.X.N[ii]? = some y := by rfl) (hyl : g.X.env.scope.names.lookup y = some .local := by rfl)
    (hsw : swapsWith (.ListComp elt [⟨.Name n p1, iter, ifs, 0⟩] scope pos) (some (.Name y p3)) spos.line g.X.env = pure true := by first | rfl | exact sw_true rfl rfl rfl (by decide +kernel))
    (hs : ∀ x, foldedSetIterable iter g.X.env x = pure x := by intro _; rfl) :
    CB g ζ γ (.Assign [.Name y p3] (.ListComp elt [⟨.Name n p1, iter, ifs, 0⟩] scope pos) spos :: sts) Γ ((rx >>= fun xs => .of (compL t e xs)) >>= k) := .mk fun F H σ Dn E p =>
  wB_of (pss_cons (ps_setLc (te := bE g scope elt) (tt := bT g scope ifs) hc nd hy hyl hsw (pi_w _ _ _) (blkOk_by hb) hg (fun s H C cl fp => ⟨fun pins s' σ H' Q I h => h s H C cl fp pins s' I⟩) (fun s H C cl fp => ⟨fun pins s' σ H' Q I h => h s H C cl fp pins s' I⟩) hs) (pss_w _ sts))
    (lc_dl (Q := fun v H1 => wB g.X sts Dn (σ.set ii (some v)) H1) (GT := gName i) (own := [(n, i)]) (ΓT := fun x => (Γ.set i .no).set i (.d x)) hi E (fun x => .inr fun F2 H2 σ2 v Q2 E2 r k => k _ (EnvOk.set_d E2 i r) (wipe_set1 (by simp))) ht he (p.expr E fun x v F1 H1 g1 r1 E1 p' => by
      obtain ⟨q, vs, rfl, h0, hf, hh, ra⟩ := r1
      refine h2 x F1 H1 _ Dn (E1.set_own ii ⟨q, vs, rfl, E1.eb.back' h0 E.eb, hf, hh, ra⟩ fun j t _ em ow hs => ?_) p'
      obtain ⟨⟨o, q1, _⟩, _⟩ := EnvOk.own_at E em ow hs
      rw [h0] at q1
      cases q1))
end

/-! ## [e for .. for ..] -/
/-- an object that no own slot holds is changed -/
theorem EnvOk.over {K : PySem.W.Frag} {C : Ctab} {B F0 F H : Hp} {σ : L2.St} {Γ : List Sl} (E : EnvOk K C B F0 F H σ Γ) {a : Addr} {u o : HO} (hb : B a = none) (hf : F a = none) (hH : H a = some u) (n : nx u) (no : ∀ (i : Nat) (s : Sl), Γ[i]? = some s → s.isOwn = true → σ[i]? ≠ some (some (.ref a))) :
    EnvOk K C B F0 F (upd H a o) σ Γ := ⟨E.toBas.write hb hf hH n, E.len, fun i s e => by
  obtain ⟨v, h1, h2⟩ := E.sl i s e
  exact ⟨v, h1, h2.write fun ow z => no i s e ow (by rw [h1, z])⟩, E.sep⟩
/-- nothing raises -/
def comp2R (t : D → R Bool) (w : D → R (List D)) (t1 : D → D → R Bool) (e : D → D → R D) : List D → Option (List D)
  | [] => some []
  | x :: xs => match t x with
    | .ok b => if b = true then (match w x with
      | .ok ys => (match compR (t1 x) (e x) ys with
        | some zs => (comp2R t w t1 e xs).map (zs ++ ·)
        | none => none)
      | _ => none) else comp2R t w t1 e xs
    | _ => none
def comp2L (t : D → R Bool) (w : D → R (List D)) (t1 : D → D → R Bool) (e : D → D → R D) (xs : List D) : Option (List D) := match comp2R t w t1 e xs with
  | some out => if out.length ≤ lim then some out else none
  | none => none
section
variable {g : G} {Γ : List Sl} {elt tg iter tg1 iter1 c : Expr} {ifs ifs1 : List Expr} {scope : Scope} {pos p1 p2 : Pos} {own : List (Str × Nat)} {vs1 : List Nat}
def bI (g : G) (scope : Scope) (tg iter : Expr) : TI := fun σ H Rr => ∀ s H0 C cl fp, wI (g.blk s H0 scope (compEnvC scope cl C g.X.env) fp).X tg iter σ H Rr
theorem lc2_dl {rx : R (List D)} {t : D → R Bool} {w : D → R (List D)} {t1 : D → D → R Bool} {e : D → D → R D} {GT GT1 : TG} {ΓT : D → List Sl} {ΓT1 : D → D → List Sl} {F H : Hp} {σ : L2.St} {Q : VK} (hi : CI g tg iter Γ rx) (E : g.Env F H σ Γ)
    (hT : ∀ x, (t x = .un) ∨ ∀ F2 H2 σ2 v (Q2 : L2.St → Hp → Prop), g.Env F2 H2 (wipe σ2 (own.map (·.2))) (wipeS Γ (own.map (·.2))) → Rp g.X.K g.C F2 v x → (∀ σ3, g.Env F2 H2 σ3 (ΓT x) → wipe σ3 (own.map (·.2)) = wipe σ2 (own.map (·.2)) → Q2 σ3 H2) → GT v (wipe σ2 (own.map (·.2))) H2 Q2)
    (hΓ : ∀ x (i : Nat) (s : Sl), (ΓT x)[i]? = some s → s.isOwn = true → i ∉ own.map (·.2) ∧ Γ[i]? = some s)
    (hT1 : ∀ x y, (t1 x y = .un) ∨ ∀ F2 H2 σ2 v (Q2 : L2.St → Hp → Prop), g.Env F2 H2 (wipe σ2 vs1) (wipeS (ΓT x) vs1) → Rp g.X.K g.C F2 v y → (∀ σ3, g.Env F2 H2 σ3 (ΓT1 x y) → wipe σ3 vs1 = wipe σ2 vs1 → Q2 σ3 H2) → GT1 v (wipe σ2 vs1) H2 Q2)
    (ht : ∀ x s H0 C cl fp, CTs (g.blk s H0 scope (compEnvC scope cl C g.X.env) fp) ifs (ΓT x) (t x)) (hw : ∀ x s H0 C cl fp, CI (g.blk s H0 scope (compEnvC scope cl C g.X.env) fp) tg1 iter1 (ΓT x) (w x))
    (ht1 : ∀ x y s H0 C cl fp, CTs (g.blk s H0 scope (compEnvC scope cl C g.X.env) fp) ifs1 (ΓT1 x y) (t1 x y)) (he : ∀ x y s H0 C cl fp, CE (g.blk s H0 scope (compEnvC scope cl C g.X.env) fp) elt (ΓT1 x y) (e x y))
    (p : Post g (rN g.X.K g.C) F H σ Q (rx >>= fun xs => .of (comp2L t w t1 e xs))) : tLc2 (wI g.X tg iter) GT (bT g scope ifs) (bI g scope tg1 iter1) GT1 (bT g scope ifs1) (bE g scope elt) (own.map (·.2)) vs1 σ H Q := by
  refine hi F H σ _ E ?_
  cases rx with
  | un => exact p
  | ex c x => exact p
  | ok xs =>
    intro J F1 H1 g1 wk D0 hD
    have p0 : PostV (rN g.X.K g.C) F H Q (comp2L t w t1 e xs) := Post.ofV p
    unfold comp2L at p0
    cases q : comp2R t w t1 e xs with
    | none =>
      rw [q] at p0
      exact p0.elim
    | some out =>
      rw [q] at p0
      dsimp only at p0
      split at p0
      case isFalse => exact p0.elim
      rename_i hlim
      have hH0 : H D0 = none := g1.h.back hD
      refine ⟨fun k m H2 => m = xs.length - k ∧ ∃ F2 acc ds rest, Ex F1 F2 ∧ Gr F H F2 H2 ∧ F2 D0 = none ∧ H2 D0 = some (.lst acc) ∧ RpA g.X.K g.C F2 acc ds ∧ comp2R t w t1 e (xs.drop k) = some rest ∧ out = ds ++ rest,
        ⟨xs.length, rfl, F1, [], [], out, Ex.refl _, g1.trans (Gr.own g1.fh hD), g1.fh.back hD, upd_same, .nil, by rw [List.drop_zero]; exact q, rfl⟩, ?_⟩
      rintro k m H2 ⟨rfl, F2, acc, ds, rest, x1, g2, f0, h0, ra, hc, ho⟩
      obtain ⟨w1, w2⟩ := wk k F2 H2 x1 g2.fh
      cases qk : xs[k]? with
      | none =>
        have hk : xs.length ≤ k := List.getElem?_eq_none_iff.mp qk
        rw [List.drop_eq_nil_of_le hk] at hc
        cases hc
        rw [List.append_nil] at ho
        subst ho
        exact .inl ⟨w1 hk, p0 _ F2 H2 g2 ⟨D0, acc, rfl, hH0, f0, h0, ra⟩⟩
      | some x =>
        obtain ⟨hk, ex⟩ := List.getElem?_eq_some_iff.mp qk
        obtain ⟨go, y⟩ := w2 x qk
        rw [List.drop_eq_getElem_cons hk, ex] at hc
        refine .inr ⟨go, fun H2 => ∃ F2 acc ds rest, Ex F1 F2 ∧ Gr F H F2 H2 ∧ F2 D0 = none ∧ H2 D0 = some (.lst acc) ∧ RpA g.X.K g.C F2 acc ds ∧ comp2R t w t1 e (xs.drop (k + 1)) = some rest ∧ out = ds ++ rest, fun H' n => ⟨xs.length - (k + 1), by omega, rfl, n⟩, fun v H3 hy => ?_⟩
        obtain ⟨F3, g3, r3⟩ := y v H3 hy
        have g03 : Gr F H F3 H3 := g2.trans g3
        have E3 : g.Env F3 H3 (wipe σ (own.map (·.2))) (wipeS Γ (own.map (·.2))) := (E.grow g03).wipe _
        have f3 : F3 D0 = none := g3.n _ _ h0 f0
        have h3 : H3 D0 = some (.lst acc) := g3.h.at h0
        unfold comp2R at hc
        rcases hT x with tu | hT
        · rw [tu] at hc
          cases hc
        refine hT F3 H3 σ v _ E3 r3 fun σ4 E4 ew => ⟨ew, fun s' H0 CC cl fp => ?_⟩
        cases qt : t x with
        | un =>
          rw [qt] at hc
          cases hc
        | ex c z =>
          rw [qt] at hc
          cases hc
        | ok b =>
          rw [qt] at hc
          refine ht x s' H0 CC cl fp F3 H3 σ4 _ E4 (by
            rw [qt]
            refine blk_post fun b' F5 H5 g5 rb => ?_
            obtain rfl : b' = b := rb
            have f5 : F5 D0 = none := g5.n _ _ h3 f3
            have h5 : H5 D0 = some (.lst acc) := g5.h.at h3
            have g05 : Gr F H F5 H5 := g03.trans g5
            have x5 : Ex F2 F5 := g3.f.trans g5.f
            cases b' with
            | false =>
              exact iteF ⟨F5, acc, ds, rest, x1.trans x5, g05, f5, h5, ra.mono x5, hc, ho⟩
            | true =>
              refine iteT fun s6 H06 C6 cl6 fp6 => ?_
              have hc' : (match w x with
                | .ok ys => (match compR (t1 x) (e x) ys with
                  | some zs => (comp2R t w t1 e (xs.drop (k + 1))).map (zs ++ ·)
                  | none => none)
                | _ => none) = some rest := hc
              have E5 : g.Env F5 H5 σ4 (ΓT x) := EnvOk.grow E4 g5
              refine hw x s6 H06 C6 cl6 fp6 F5 H5 σ4 _ E5 ?_
              cases qw : w x with
              | un =>
                rw [qw] at hc'
                cases hc'
              | ex c z =>
                rw [qw] at hc'
                cases hc'
              | ok ys =>
                rw [qw] at hc'
                dsimp only at hc'
                cases qz : compR (t1 x) (e x) ys with
                | none =>
                  rw [qz] at hc'
                  cases hc'
                | some zs =>
                  rw [qz] at hc'
                  dsimp only at hc'
                  cases qr : comp2R t w t1 e (xs.drop (k + 1)) with
                  | none =>
                    rw [qr] at hc'
                    cases hc'
                  | some rest2 =>
                    rw [qr] at hc'
                    obtain rfl : zs ++ rest2 = rest := Option.some.inj hc'
                    intro J1 F6 H6 g6 wk1
                    have f6 : F6 D0 = none := g6.n _ _ h5 f5
                    have h6 : H6 D0 = some (.lst acc) := g6.h.at h5
                    refine ⟨fun j m1 H7 => m1 = ys.length - j ∧ ∃ F7 acc7 ds7 rest7, Ex F6 F7 ∧ Gr F H F7 H7 ∧ F7 D0 = none ∧ H7 D0 = some (.lst acc7) ∧ RpA g.X.K g.C F7 acc7 ds7 ∧ compR (t1 x) (e x) (ys.drop j) = some rest7 ∧ ds ++ zs = ds7 ++ rest7 ∧ g.Env F7 H7 σ4 (ΓT x),
                      ⟨ys.length, rfl, F6, acc, ds, zs, Ex.refl _, g05.trans g6, f6, h6, ra.mono (x5.trans g6.f), by rw [List.drop_zero]; exact qz, rfl, EnvOk.grow E5 g6⟩, ?_⟩
                    rintro j m1 H7 ⟨rfl, F7, acc7, ds7, rest7, x7, g7, f7, h7, ra7, hc7, ho7, E7⟩
                    obtain ⟨u1, u2⟩ := wk1 j F7 H7 x7 g7.fh
                    cases qj : ys[j]? with
                    | none =>
                      have hj : ys.length ≤ j := List.getElem?_eq_none_iff.mp qj
                      rw [List.drop_eq_nil_of_le hj] at hc7
                      cases hc7
                      rw [List.append_nil] at ho7
                      exact .inl ⟨u1 hj, F7, acc7, ds7, rest2, (x1.trans x5).trans (g6.f.trans x7), g7, f7, h7, ra7, rfl, by rw [ho, ← ho7, List.append_assoc]⟩
                    | some y1 =>
                      obtain ⟨hj, ey⟩ := List.getElem?_eq_some_iff.mp qj
                      obtain ⟨go1, yl⟩ := u2 y1 qj
                      rw [List.drop_eq_getElem_cons hj, ey] at hc7
                      refine .inr ⟨go1, fun H7 => ∃ F7 acc7 ds7 rest7, Ex F6 F7 ∧ Gr F H F7 H7 ∧ F7 D0 = none ∧ H7 D0 = some (.lst acc7) ∧ RpA g.X.K g.C F7 acc7 ds7 ∧ compR (t1 x) (e x) (ys.drop (j + 1)) = some rest7 ∧ ds ++ zs = ds7 ++ rest7 ∧ g.Env F7 H7 σ4 (ΓT x), fun H' n => ⟨ys.length - (j + 1), by omega, rfl, n⟩, fun v1 H8 hy8 => ?_⟩
                      obtain ⟨F8, g8, r8⟩ := yl v1 H8 hy8
                      have g08 : Gr F H F8 H8 := g7.trans g8
                      have f8 : F8 D0 = none := g8.n _ _ h7 f7
                      have h8 : H8 D0 = some (.lst acc7) := g8.h.at h7
                      have E8 : g.Env F8 H8 σ4 (ΓT x) := EnvOk.grow E7 g8
                      unfold compR at hc7
                      rcases hT1 x y1 with tu | hT1
                      · rw [tu] at hc7
                        cases hc7
                      refine hT1 F8 H8 σ4 v1 _ (EnvOk.wipe E8 _) r8 fun σ9 E9 ew9 => ⟨ew9, fun s9 H09 C9 cl9 fp9 => ?_⟩
                      cases qt1 : t1 x y1 with
                      | un =>
                        rw [qt1] at hc7
                        cases hc7
                      | ex c z =>
                        rw [qt1] at hc7
                        cases hc7
                      | ok b1 =>
                        rw [qt1] at hc7
                        refine ht1 x y1 s9 H09 C9 cl9 fp9 F8 H8 σ9 _ E9 (by
                          rw [qt1]
                          refine blk_post fun b2 FA HA gA rb2 => ?_
                          obtain rfl : b2 = b1 := rb2
                          have fA : FA D0 = none := gA.n _ _ h8 f8
                          have hA : HA D0 = some (.lst acc7) := gA.h.at h8
                          have xA : Ex F7 FA := g8.f.trans gA.f
                          cases b2 with
                          | false =>
                            exact iteF ⟨FA, acc7, ds7, rest7, x7.trans xA, g08.trans gA, fA, hA, ra7.mono xA, hc7, ho7, EnvOk.grow E8 gA⟩
                          | true =>
                            refine iteT fun sB HB CB clB fpB => ?_
                            have hcB : (match e x y1 with
                              | .ok z => (compR (t1 x) (e x) (ys.drop (j + 1))).map (z :: ·)
                              | _ => none) = some rest7 := hc7
                            cases qe : e x y1 with
                            | un =>
                              rw [qe] at hcB
                              cases hcB
                            | ex c z =>
                              rw [qe] at hcB
                              cases hcB
                            | ok z =>
                              rw [qe] at hcB
                              cases qs : compR (t1 x) (e x) (ys.drop (j + 1)) with
                              | none =>
                                rw [qs] at hcB
                                cases hcB
                              | some rest8 =>
                                rw [qs] at hcB
                                obtain rfl : z :: rest8 = rest7 := Option.some.inj hcB
                                refine he x y1 sB HB CB clB fpB FA HA σ9 _ (EnvOk.grow E9 gA) ?_
                                rw [qe]
                                refine blk_post fun u FC HC gC ru => ?_
                                have fC : FC D0 = none := gC.n _ _ hA fA
                                have hCC : HC D0 = some (.lst acc7) := gC.h.at hA
                                have gg : Gr F H FC HC := (g08.trans gA).trans gC
                                have xx : Ex F7 FC := xA.trans gC.f
                                have nwr : nx (.lst acc7) := ⟨(fun _ z => nomatch z), (fun _ z => nomatch z)⟩
                                have EC : g.Env FC HC σ4 (ΓT x) := EnvOk.grow (EnvOk.grow E8 gA) gC
                                refine ⟨acc7, hCC, ?_, FC, acc7 ++ [u], ds7 ++ [z], rest8, x7.trans xx, ⟨gg.f, gg.h.write hH0, gg.fh.write fC, gg.n, gg.t.trans (TX.write hCC nwr)⟩, fC, upd_same, (ra7.mono xx).append (.one ru), rfl, by rw [ho7]; simp, ?_⟩
                                · have l1 := ra7.length
                                  have l2 : out.length = ds7.length + (z :: rest8).length + rest2.length := by
                                    rw [ho, ← List.append_assoc, ho7, List.length_append, List.length_append]
                                  rw [List.length_cons] at l2
                                  exact lim_lt (by omega)
                                · refine EnvOk.over EC (E.eb.back hH0) fC hCC nwr fun i s e ow hs => ?_
                                  obtain ⟨ni, eo⟩ := hΓ x i s e ow
                                  have hs0 : (wipe σ4 (own.map (·.2)))[i]? = some (some (.ref D0)) := by
                                    rw [wipe_at, if_neg ni]
                                    exact hs
                                  rw [ew, wipe_at, if_neg ni] at hs0
                                  obtain ⟨⟨o2, q2, _⟩, _⟩ := EnvOk.own_at E eo ow hs0
                                  rw [hH0] at q2
                                  cases q2))
theorem slots2 {Γ : List Sl} {i j : Nat} {x : D} (k : Nat) (s : Sl) (e : (((Γ.set j .no).set i .no).set i (.d x))[k]? = some s) (ow : s.isOwn = true) : k ∉ [i, j] ∧ Γ[k]? = some s := by
  by_cases h1 : i = k
  · subst h1
    by_cases hl : i < ((Γ.set j .no).set i .no).length
    · rw [List.getElem?_set_self hl] at e
      cases e
      exact absurd (show false = true from ow) Bool.false_ne_true
    · rw [List.getElem?_eq_none (by simpa using hl)] at e
      cases e
  · rw [List.getElem?_set_ne h1, List.getElem?_set_ne h1] at e
    by_cases h2 : j = k
    · subst h2
      by_cases hl : j < Γ.length
      · rw [List.getElem?_set_self hl] at e
        cases e
        exact absurd (show false = true from ow) Bool.false_ne_true
      · rw [List.getElem?_eq_none (by simpa using hl)] at e
        cases e
    · rw [List.getElem?_set_ne h2] at e
      exact ⟨by simp [Ne.symm h1, Ne.symm h2], e⟩
/-- [e for n in iter if .. for m in iter1 if ..] -/
theorem cn_comp22 (i j : Nat) {n m : Str} {rx : R (List D)} {t : D → R Bool} {w : D → R (List D)} {t1 : D → D → R Bool} {e : D → D → R D} (hi : CI g (.Name n p1) iter Γ rx) (nd : g.X.N.Nodup) (hc : g.X.calm = true) (hb : blkC g.X.N g.X.env.scope scope [(n, i), (m, j)] = true)
    (ht : ∀ x s H0 C cl fp, CTs (g.blk s H0 scope (compEnvC scope cl C g.X.env) fp) ifs (((Γ.set j .no).set i .no).set i (.d x)) (t x)) (hw : ∀ x s H0 C cl fp, CI (g.blk s H0 scope (compEnvC scope cl C g.X.env) fp) (.Name m p2) iter1 (((Γ.set j .no).set i .no).set i (.d x)) (w x))
    (ht1 : ∀ x y s H0 C cl fp, CTs (g.blk s H0 scope (compEnvC scope cl C g.X.env) fp) ifs1 (((((Γ.set j .no).set i .no).set i (.d x)).set j .no).set j (.d y)) (t1 x y)) (he : ∀ x y s H0 C cl fp, CE (g.blk s H0 scope (compEnvC scope cl C g.X.env) fp) elt (((((Γ.set j .no).set i .no).set i (.d x)).set j .no).set j (.d y)) (e x y))
    (hg : ∀ (s : Shared) (H : Hp) (C : Addr) (cl : List (Str × Addr)) (fp : List Addr), PG (g.X.blk s H scope (compEnvC scope cl C g.X.env) fp) (.Name n p1) (gName i))
    (hg1 : ∀ (s : Shared) (H : Hp) (C : Addr) (cl : List (Str × Addr)) (fp : List Addr), PG (g.X.blk s H scope (compEnvC scope cl C g.X.env) fp) (.Name m p2) (gName j))
    (hs : ∀ x, foldedSetIterable iter g.X.env x = pure x := by intro _; rfl) (hs1 : ∀ env x, foldedSetIterable iter1 env x = pure x := by intro _ _; rfl) :
    CN g (.ListComp elt [⟨.Name n p1, iter, ifs, 0⟩, ⟨.Name m p2, iter1, ifs1, 0⟩] scope pos) Γ (rx >>= fun xs => .of (comp2L t w t1 e xs)) := .mk fun F H σ Q E p =>
  wE_of (pe_lc2 (own := [(n, i), (m, j)]) (vs1 := [j]) (te := bE g scope elt) (tt := bT g scope ifs) (tt1 := bT g scope ifs1) (wi1 := bI g scope (.Name m p2) iter1) hc nd (pi_w _ _ _) (blkOk_by hb) (by simp) hg (fun s H C cl fp => ⟨fun pins s' σ H' Q I h => h s H C cl fp pins s' I⟩) (fun s H C cl fp => ⟨fun pins s' σ H' Q I h => h s H C cl fp pins s' I⟩) hg1
      (fun s H C cl fp => ⟨fun pins s' σ H' Q I h => h s H C cl fp pins s' I⟩) (fun s H C cl fp => ⟨fun pins s' σ H' Q I h => h s H C cl fp pins s' I⟩) hs hs1)
    (lc2_dl (GT := gName i) (GT1 := gName j) (own := [(n, i), (m, j)]) (vs1 := [j]) (ΓT := fun x => ((Γ.set j .no).set i .no).set i (.d x)) (ΓT1 := fun x y => ((((Γ.set j .no).set i .no).set i (.d x)).set j .no).set j (.d y)) hi E
      (fun x => .inr fun F2 H2 σ2 v Q2 E2 r k => k _ (EnvOk.set_d E2 i r) (wipe_set1 (by simp))) (fun x k s e ow => slots2 k s e ow) (fun x y => .inr fun F2 H2 σ2 v Q2 E2 r k => k _ (EnvOk.set_d E2 j r) (wipe_set1 (by simp))) ht hw ht1 he p)
end
end DL
end
section
set_option Elab.async false
set_option linter.all false
set_option maxRecDepth 100000
set_option maxHeartbeats 4000000
set_option autoImplicit false
namespace DL
open PySem PySem.Spec PyProof.Rows L2
variable [TN]

/-! ## enumerate(a tuple) -/
theorem meets_enum_tup (t : Addr) (items : Array Value) (n : Nat) (dct : Option Addr) (sl : Array (Option Value)) :
    Meets (Builtin.«enumerate.__new__» ⟨[.type "enumerate", .ref t], []⟩) (fun _ R s => s.heap.get? t = some { cls := .type "tuple", dict := dct, data := .seq items n, slots := sl } ∧
      R (.ok (.ret (.ref (s.heap.push { cls := .type "tuple_iterator", data := .fields #[.ref t, .int 0 0] }).objs.size)))
        { s with heap := (s.heap.push { cls := .type "tuple_iterator", data := .fields #[.ref t, .int 0 0] }).push { cls := .type "enumerate", data := .fields #[.none, .bool false, .ref s.heap.objs.size, rawInt 0, .none, .none] } }) :=
  .of_wp fun prog w A R s h => by
    obtain ⟨hp, g, d, tk, os⟩ := s
    obtain ⟨hl, h⟩ := h
    have hsub := sub_enumerate
    have hL : Heap.IsTuple (Shared.heap ⟨hp, g, d, tk, os⟩) t items := ⟨_, hl, rfl, n, rfl⟩
    wp_walk using AutoSeq1.wpAny_loadPart' hl
    refine wpAny_stack_any fun st => wpAny_pure ?_
    split
    · rename_i c _ _ _ _ _
      cases (c == Value.type "enumerate")
      · wp_walk using AutoSeq1.wpAny_loadPart' hl, wpAny_pyIter_tuple hL
        exact ⟨_, rfl, h⟩
      · wp_walk using AutoSeq1.wpAny_loadPart' hl, wpAny_pyIter_tuple hL
        exact ⟨_, rfl, h⟩
    · wp_walk using AutoSeq1.wpAny_loadPart' hl, wpAny_pyIter_tuple hL
      exact ⟨_, rfl, h⟩
theorem call_enum_tup {prog : Program} {w : World} {A : Around} {E : Value → Shared → Prop} {s : Shared} {t : Addr} {items : Array Value} {Q : Value → Shared → Prop} (hL : s.heap.IsTuple t items)
    (h : ∀ h', IsEnum h' (s.heap.objs.size + 1) s.heap.objs.size 0 .none → h'.IsTupleIter s.heap.objs.size t 0 → (∀ b o, s.heap.get? b = some o → h'.get? b = some o) → Q (.ref (s.heap.objs.size + 1)) { s with heap := h' }) :
    wpAny (model prog w) A (call (.type "enumerate") [.ref t]) Q E s := by
  obtain ⟨⟨c, dct, dt, sl⟩, hl, hc, n, hd⟩ := hL
  replace hc : c = .type "tuple" := hc
  replace hd : dt = .seq items n := hd
  subst hc hd
  refine callType_new F.called_enumerate (by decide) (F.typeCall_enumerate_1 _) (F.newCall_enumerate_1 _) (fun obj => F.args_object_init_2 obj _) F.entry_enumerate_new (meets_enum_tup t items n dct sl) ⟨hl, ?_⟩
  obtain ⟨h1, eh1⟩ : ∃ h1, h1 = s.heap.push { cls := .type "tuple_iterator", data := .fields #[.ref t, .int 0 0] } := ⟨_, rfl⟩
  have hz : h1.objs.size = s.heap.objs.size + 1 := by
    rw [eh1]
    exact Heap.size_push ..
  show _ ∧ _
  rw [← eh1, hz]
  have he : IsEnum (h1.push { cls := .type "enumerate", data := .fields #[.none, .bool false, .ref s.heap.objs.size, rawInt 0, .none, .none] }) (s.heap.objs.size + 1) s.heap.objs.size 0 .none := by
    have z := Heap.get?_push_size h1 (o := { cls := .type "enumerate", data := .fields #[.none, .bool false, .ref s.heap.objs.size, rawInt 0, .none, .none] }) rfl
    rw [hz] at z
    exact z
  have g1 : h1.get? s.heap.objs.size = some { cls := .type "tuple_iterator", data := .fields #[.ref t, .int 0 0] } := by
    rw [eh1]
    exact Heap.get?_push_size _ rfl
  have k1 : ∀ b o, s.heap.get? b = some o → h1.get? b = some o := fun b o x => by
    rw [eh1]
    exact Heap.get?_push_of_some _ x
  exact ⟨⟨_, he, rfl⟩, h _ he ⟨_, Heap.get?_push_of_some _ g1, rfl, rfl⟩ fun b o x => Heap.get?_push_of_some _ (k1 b o x)⟩
/-- the tuple at a, each item in a new pair -/
def IteT (K : PySem.W.Frag) (a : Addr) : It :=
  ⟨fun i H => ∃ (xs : List V) (x : V), SqT K H a xs ∧ xs[i]? = some x, fun i H v H' => ∃ T x, v = .ref T ∧ H T = none ∧ H' = upd H T (.tup [.int (i : Nat), x]) ∧ ∀ xs, SqT K H a xs → xs[i]? = some x, fun i H => ∃ xs : List V, SqT K H a xs ∧ xs.length ≤ i⟩
theorem turn_enumT {P : Program} {w : World} {K : PySem.W.Frag} {elts : List Expr} {kk : Nat} {tpos : Pos} (a e it : Addr) (ha : a ≠ it) (he0 : e ≠ a) :
    Turn P w K (.Tuple elts kk tpos) (IteT K a) [e, it] e (fun i h => (∃ old, IsEnum h e it ((i : Nat) : Int) old) ∧ h.IsTupleIter it a i ∧ e ≠ it) where
  mem := by simp
  obj := fun i h st b hb => by
    obtain ⟨⟨old, he⟩, ⟨o, ho, hc, hd⟩, _⟩ := st
    have e' : b = e ∨ b = it := by simpa using hb
    rcases e' with z | z
    · subst z
      exact ⟨_, he, fun v q => nomatch q⟩
    · subst z
      exact ⟨o, ho, fun v q => by
        rw [hd] at q
        cases q⟩
  keep := fun i h h' st k => let ⟨⟨old, he⟩, hi, hne⟩ := st; ⟨⟨old, k e (by simp) _ he⟩, hi.at fun o q => k it (by simp) o q, hne⟩
  item := by
    intro X hP hw hK hc i pins s σ H E I hf st hg
    subst hP hw hK
    obtain ⟨⟨old, he⟩, hit, hne⟩ := st
    obtain ⟨xs, x, hq, hx⟩ := hg
    obtain ⟨its, rv, p, hz⟩ := I.tuple hq
    obtain ⟨u, hu, ru⟩ := rv.get hx
    have hel : e < s.heap.objs.size := Heap.lt_size he
    have hil : it < s.heap.objs.size := by
      obtain ⟨_, q, _⟩ := hit
      exact Heap.lt_size q
    have hi : i < its.toArray.size := by
      have := (List.getElem?_eq_some_iff.mp hu).1
      simpa using this
    refine wpAny_pyNext_enum_itemD (Draws.tuple (A := X.A.in1) (I.ok.hd hc) it a ha its.toArray) he ⟨hit, p⟩ hi hne (by simp [hne, he0]) fun u' h' tk hP ho hst' hT hsz hk => ?_
    obtain ⟨hit', _⟩ := hst'
    have eu : u' = u := by
      have z : its.toArray[i]? = some u' := hP
      rw [show its.toArray[i]? = its[i]? from by simp, hu] at z
      exact (Option.some.inj z).symm
    subst eu
    refine ⟨_, rfl, wpAny_letOwnedTupleGo_enum (s := { s with heap := h', toks := tk + 1 }) ho fun h'' he' sb => ?_⟩
    have hT2 : h''.get? s.heap.objs.size = some { cls := .type "tuple", data := .seq #[.int i tk, u'] } := (sb.2 _ (Nat.ne_of_gt hel)).trans hT
    have new : ObjOk X.prog X.w (upd H s.heap.objs.size (.tup [.int (i : Nat), x])) h'' s.heap.objs.size (.tup [.int (i : Nat), x]) :=
      ⟨by show 2 ≤ sizeLine; decide, [.int i tk, u'], .cons ⟨_, rfl⟩ (.cons ru .nil), ⟨_, hT2, rfl, _, rfl⟩⟩
    have I1 : Inv X pins σ (upd H s.heap.objs.size (.tup [.int (i : Nat), x])) { s with heap := h'', toks := tk + 1 } :=
      I.turnedNew (ch := [e, it]) (fun b ob hb q => (sb.2 b (fun z => hb (by simp [z]))).trans (hk b ob (fun z => hb (by simp [z])) (fun z => hb (by simp [z])) q)) hf (Nat.le_refl _) new
    refine ⟨.ref s.heap.objs.size, _, I1, rfl, ⟨_, x, rfl, I.hok.fresh (Nat.le_refl _), rfl, fun ys hy => by
      rw [I.tuple_inj hy hq]
      exact hx⟩, ⟨⟨u', ?_⟩, hit'.at fun o q => (sb.2 it (Ne.symm hne)).trans q, hne⟩, fun b hb => ?_⟩
    · have e1 : ((i + 1 : Nat) : Int) = (i : Int) + 1 := by omega
      rw [e1]
      exact he'
    · have hb' : b < s.heap.objs.size := by
        have e' : b = e ∨ b = it := by simpa using hb
        rcases e' with z | z
        · rw [z]
          exact hel
        · rw [z]
          exact hil
      rw [upd_ne (Nat.ne_of_lt hb')]
      exact (hf b hb).1
  done := by
    intro X hP hw hK hc i pins s σ H E I hf st hg
    subst hP hw hK
    obtain ⟨⟨old, he⟩, hit, hne⟩ := st
    obtain ⟨xs, hq, hx⟩ := hg
    obtain ⟨its, rv, p, hz⟩ := I.tuple hq
    obtain ⟨f0, f1, f2, f3, f4, f5⟩ := hf it (by simp)
    have hl := rv.length
    have hi : its.toArray[i]? = none := by simp; omega
    have D : Draws X.prog X.w X.A.in1 it [it, a] i (fun _ _ => False) (fun j h => j = i ∧ h.IsTupleIter it a i ∧ h.IsTuple a its.toArray) :=
      { live := fun _ _ st => let ⟨o, ho, _⟩ := st.2.1; ⟨o, ho⟩
        frame := fun _ _ _ st hk => ⟨st.1, st.2.1.at fun o e => hk it (by simp) o e, st.2.2.at fun o e => hk a (by simp) o e⟩
        item := fun j s Q E hj st _ => absurd st.1 (Nat.ne_of_lt hj)
        done := fun s Q E st hE => wpAny_nextOf_tuple_end (I.ok.hd hc) st.2.1 st.2.2 hi hE }
    exact wpAny_pyNext_enum_endD D he ⟨rfl, hit, p⟩ fun h' eb => ⟨rfl, I.turned (t' := s.toks) (fun b o hb q => eb b o hb q) f0 f1 f3 f4 f5⟩
  self := fun A i s Q E st h => let ⟨⟨_, he⟩, _⟩ := st; wpAny_pyIter_enum he h
/-- enumerate(e), e a tuple -/
theorem pi_enumT {X : Cx} {e : Expr} {ta : TA} {p pos tpos : Pos} {elts : List Expr} {kk : Nat} (hg : Gl X "enumerate") (hm : X.mg "enumerate" = none) (ha : PA X [e] ta) (hs : starEach [e] X.env = [(false, eval e X.env)]) :
    PI X (.Tuple elts kk tpos) (.Call (.Name "enumerate" p) [e] [] pos) (fun σ H R => ta σ H fun vs H1 => ∃ a xs, vs = [.ref a] ∧ SqT X.K H1 a xs ∧ R (IteT X.K a) H1) := by
  refine ⟨fun pins s σ H R I h => ?_⟩
  refine Call_ (ld_blt I hg hm boot_enumerate (PyProof.Rows.callWith_type1 (thn (ha.run pos pins s σ H _ I h) fun us s1 ⟨vs, H1, I1, r1, q1⟩ => ?_) hs rfl))
  obtain ⟨a, xs, ex, hq, q⟩ := q1
  subst ex
  cases r1 with
  | cons r rr =>
    cases rr
    cases r
    obtain ⟨its, rv, p', hz⟩ := I1.tuple hq
    have ha : a < s1.heap.objs.size := IsTup.lt p'
    refine call_enum_tup p' fun h' he hit hk => wpAny_pyIter_enum he ?_
    have I2 : Inv X pins σ H1 { s1 with heap := h' } := I1.kept (t' := s1.toks) hk
    refine ⟨s1.heap.objs.size + 1, [s1.heap.objs.size + 1, s1.heap.objs.size], _, _, H1, rfl, I2, turn_enumT a (s1.heap.objs.size + 1) s1.heap.objs.size (Nat.ne_of_lt ha) (Nat.ne_of_gt (Nat.lt_succ_of_lt ha)), ⟨⟨.none, he⟩, hit, Nat.succ_ne_self _⟩, fun b hb => ?_, q⟩
    have e' : b = s1.heap.objs.size + 1 ∨ b = s1.heap.objs.size := by simpa using hb
    have hle : s1.heap.objs.size ≤ b := by
      rcases e' with z | z
      · rw [z]
        exact Nat.le_add_right _ _
      · rw [z]
        exact Nat.le_refl _
    exact I1.fpOk hle (I1.hok.fresh hle)
section
variable {g : G} {Γ : List Sl} {a b e : Expr} {es : List Expr} {pos p1 tpos : Pos} {elts : List Expr} {kk : Nat}
theorem wlk_enumT {K : PySem.W.Frag} {C : Ctab} {F : Hp} {a : Addr} {vs : List V} {xs : List D} (h : SqT K F a vs) (r : RpA K C F vs xs) : Wlk K C F (IteT K a) (enumL 0 xs) := fun i F2 H2 e1 e2 => by
  have hs : SqT K H2 a vs := ex_t (e1.trans e2) h
  refine ⟨fun hl => ⟨vs, hs, by rw [r.length, ← enumL_len xs 0]; exact hl⟩, fun y hy => ?_⟩
  rw [enumL_get] at hy
  cases q : xs[i]? with
  | none =>
    rw [q] at hy
    cases hy
  | some x =>
    rw [q] at hy
    cases hy
    obtain ⟨v, h1, h2⟩ := r.get q
    refine ⟨⟨vs, v, hs, h1⟩, fun w H3 ⟨T, u, z1, z2, z3, z4⟩ => ?_⟩
    subst z1 z3
    have ew := z4 vs hs
    rw [h1] at ew
    cases ew
    have gr : Gr F2 H2 (upd F2 T (.tup [.int (i : Nat), v])) (upd H2 T (.tup [.int (i : Nat), v])) := Gr.alloc e2 z2
    refine ⟨_, gr, .tup (SqT.of upd_same) (.cons ?_ (.cons ((h2.mono e1).mono gr.f) .nil))⟩
    rw [Nat.zero_add]
    exact .int _
def D.asSeq : D → Option (List D)
  | .tup l => some l
  | .lst l => some l
  | _ => none
/-- enumerate(data): a tuple, a list -/
theorem ci_enumA {r : R D} (h : CE g a Γ r) (hm : g.X.mg "enumerate" = none) (hg : Gl g.X "enumerate" := by rfl) (h1 : starEach [a] g.X.env = [(false, eval a g.X.env)] := by rfl) :
    CI g (.Tuple elts kk tpos) (.Call (.Name "enumerate" p1) [a] [] pos) Γ (r >>= fun x => .of (x.asSeq.map (enumL 0))) := .mk fun F H σ Rr E p => by
  refine wI_of (PI.or (pi_enum hg hm (pa_cons (pe_w _ a) pa_nil h1) h1) (pi_enumT hg hm (pa_cons (pe_w _ a) pa_nil h1) h1)) ?_
  cases r with
  | un => exact .inl (h F H σ _ E p)
  | ex c x => exact .inl (h F H σ _ E p)
  | ok x =>
    cases x with
    | lst l => exact .inl (h F H σ _ E fun v F1 H1 g1 r1 => by
        cases r1 with
        | lst h1 a1 => exact ⟨_, _, rfl, SqL.of (g1.fh.at h1), p _ F1 H1 g1 (wlk_enum (SqL.of h1) a1)⟩)
    | tup l => exact .inr (h F H σ _ E fun v F1 H1 g1 r1 => by
        cases r1 with
        | tup h1 a1 => exact ⟨_, _, rfl, ex_t g1.fh h1, p _ F1 H1 g1 (wlk_enumT h1 a1)⟩)
    | _ => exact (show False from p).elim

/-! ## *e among arguments, items -/
theorem ca_star {ra : R D} {rs : R (List D)} {p : Pos} (ha : CE g e Γ ra) (hs : CA g es Γ rs) (hst : starEach (.Starred e p :: es) g.X.env = (true, eval e g.X.env) :: starEach es g.X.env := by rfl) :
    CA g (.Starred e p :: es) Γ (ra >>= fun x => R.of x.asSeq >>= fun l => rs >>= fun xs => .ok (l ++ xs)) := .mk fun F H σ Q E q => by
  refine wA_of (StX.pa_star (pe_w _ e) (pa_w _ es) hst) (ha F H σ _ E (q.seq fun x v F1 H1 g1 r1 q1 => ?_))
  cases x <;> try (exact (show False from q1).elim)
  · rename_i l
    have q2 : Post g (rA g.X.K g.C) F1 H1 σ Q (rs >>= fun xs => .ok (l ++ xs)) := q1
    cases r1 with
    | @tup ad vs _ h1 a1 => exact ⟨ad, vs, rfl, .inl (ex_t g1.fh h1), hs F1 H1 σ _ (E.grow g1) (q2.seq fun xs ws F2 H2 g2 r2 q3 => q3.here g2.fh ((a1.mono g2.f).append r2))⟩
  · rename_i l
    have q2 : Post g (rA g.X.K g.C) F1 H1 σ Q (rs >>= fun xs => .ok (l ++ xs)) := q1
    cases r1 with
    | @lst ad vs _ h1 a1 => exact ⟨ad, vs, rfl, .inr (SqL.of (g1.fh.at h1)), hs F1 H1 σ _ (E.grow g1) (q2.seq fun xs ws F2 H2 g2 r2 q3 => q3.here g2.fh ((a1.mono g2.f).append r2))⟩
end
end DL
end
section
set_option Elab.async false
set_option linter.all false
set_option maxRecDepth 100000
set_option maxHeartbeats 4000000
set_option autoImplicit false
namespace DL
open PySem PySem.Spec PyProof.Rows L2
variable [TN]

/-! ## dict(a list of pairs) -/
def D.pairK : D → Option (Key × D)
  | .tup [k, x] => k.key.map fun q => (q, x)
  | _ => none
def pairsK : List D → Option DK
  | [] => some []
  | d :: l => d.pairK >>= fun p => (pairsK l).map (p :: ·)
def dmerge (kvs more : DK) : DK := more.foldl (fun acc kv => dput acc kv.1 kv.2) kvs
def dictD (l : List D) : Option DK := (pairsK l).map (dmerge [])
section
variable {K : PySem.W.Frag} {C : Ctab} {F : Hp} {X : Cx}
theorem RpK.merge {ms : List (Key × V)} {more : DK} (h : RpK K C F ms more) : ∀ {ws : List (Key × V)} {kvs : DK}, RpK K C F ws kvs → RpK K C F (mergeK ws ms) (dmerge kvs more) := by
  induction h with
  | nil => exact fun h => h
  | @cons p q ps qs h t ih =>
    intro ws kvs r
    have e : p.1 = q.1 := h.1
    have r' : RpK K C F (putK ws p.1 p.2) (dput kvs p.1 q.2) := r.put p.1 h.2
    rw [e] at r'
    have := ih r'
    unfold mergeK dmerge
    rw [List.foldl_cons, List.foldl_cons, e]
    exact this
theorem pairK_of {v : V} {d : D} {p : Key × D} (r : Rp K C F v d) (h : d.pairK = some p) : ∃ a w, v = .ref a ∧ SqT K F a [kV p.1, w] ∧ Rp K C F w p.2 := by
  cases r with
  | tup h1 a1 =>
    cases a1 with
    | nil => cases h
    | cons q t =>
      cases t with
      | nil => cases h
      | cons q2 t2 =>
        cases t2 with
        | cons _ _ => cases h
        | nil =>
          rename_i v1 d1 v2 d2
          have h' : d1.key.map (fun q => (q, d2)) = some p := h
          cases e : d1.key with
          | none =>
            rw [e] at h'
            cases h'
          | some k =>
            rw [e] at h'
            cases h'
            have := key_of q e
            subst this
            exact ⟨_, _, rfl, h1, q2⟩
  | _ => cases h
theorem pairs_Rp : ∀ {l : List D} {vs : List V} {ks : DK}, RpA K C F vs l → pairsK l = some ks → ∃ (ps : List Addr) (kvs : List (Key × V)), vs = ps.map V.ref ∧ Paired (fun p kv => SqT K F p [kV kv.1, kv.2]) ps kvs ∧ RpK K C F kvs ks
  | [], _, ks, r, h => by
    cases r
    cases h
    exact ⟨[], [], rfl, .nil, .nil⟩
  | d :: l, _, ks, r, h => by
    cases r with
    | cons r0 t =>
      have h' : (d.pairK >>= fun p => (pairsK l).map (p :: ·)) = some ks := h
      cases e : d.pairK with
      | none =>
        rw [e] at h'
        cases h'
      | some p =>
        rw [e] at h'
        have h2 : (pairsK l).map (p :: ·) = some ks := h'
        cases e2 : pairsK l with
        | none =>
          rw [e2] at h2
          cases h2
        | some m =>
          rw [e2] at h2
          cases h2
          obtain ⟨a, w, rfl, h3, r3⟩ := pairK_of r0 e
          obtain ⟨ps, kvs, rfl, h4, h5⟩ := pairs_Rp t e2
          exact ⟨a :: ps, (p.1, w) :: kvs, rfl, .cons h3 h4, .cons ⟨rfl, r3⟩ h5⟩
theorem Paired_ex {H : Hp} (e : Ex F H) : ∀ {ps : List Addr} {kvs : List (Key × V)}, Paired (fun p kv => SqT K F p [kV kv.1, kv.2]) ps kvs → Paired (fun p kv => SqT K H p [kV kv.1, kv.2]) ps kvs
  | _, _, .nil => .nil
  | _, _, .cons h t => .cons (ex_t e h) (Paired_ex e t)
theorem cd_dictP (hc : X.calm = true) : CallD X (.type "dict") (rL X.K C) (rK X.K C) dictD := by
  refine ⟨_, call_dictP hc, fun F H H0 x dx Q e r1 p => ?_⟩
  obtain ⟨a, vs, rfl, h1, a1⟩ := r1
  unfold dictD at p
  cases q : pairsK dx with
  | none =>
    rw [q] at p
    exact (show False from p).elim
  | some ks =>
    rw [q] at p
    obtain ⟨ps, kvs, rfl, h2, h3⟩ := pairs_Rp a1 q
    exact ⟨a, ps, kvs, rfl, h1, Paired_ex e h2, fun l hl => p _ _ _ (Gr.own e hl) ⟨l, _, rfl, hl, e.back hl, upd_same, RpK.merge h3 .nil⟩⟩
end

/-! ## sorted, ints -/
theorem srt_unique {l : List Int} {ns : List Int} (hp : l.Perm ns) (hs : l.Pairwise (· ≤ ·)) : l = ns.mergeSort := by
  have h1 : ns.mergeSort.Pairwise (fun a b => decide (a ≤ b) = true) := List.pairwise_mergeSort (le := fun a b : Int => decide (a ≤ b)) (fun a b c h1 h2 => by simp only [decide_eq_true_eq] at *; omega) (fun a b => by simp only [Bool.or_eq_true, decide_eq_true_eq]; omega) ns
  have h2 : ns.mergeSort.Pairwise (· ≤ ·) := h1.imp fun h => by simpa using h
  exact List.Perm.eq_of_pairwise (fun a b _ _ h1 h2 => by omega) hs h2 (hp.trans (List.mergeSort_perm ns _).symm)
def sortI (l : List D) : Option (List D) := (intsD l).map fun ns => ns.mergeSort.map D.int
section
variable {C : Ctab} {X : Cx}
theorem cd_sortL : CallD X (.builtin "sorted") (rL X.K C) (rN X.K C) sortI := by
  refine ⟨_, cr_sortedI, fun F H H0 x dx Q e r1 p => ?_⟩
  obtain ⟨a, vs, rfl, h1, a1⟩ := r1
  unfold sortI at p
  cases q : intsD dx with
  | none =>
    rw [q] at p
    exact (show False from p).elim
  | some ns =>
    rw [q] at p
    have e1 := ints_of q
    subst e1
    have e2 := a1.ints
    subst e2
    refine ⟨a, ns, rfl, h1, fun ns' l hp hs hl => p _ _ _ (Gr.own e hl) ⟨l, _, rfl, hl, e.back hl, upd_same, ?_⟩⟩
    rw [srt_unique hp hs]
    exact RpA.of_ints _
end
end DL
end
section
set_option Elab.async false
set_option linter.all false
set_option maxRecDepth 100000
set_option maxHeartbeats 4000000
set_option autoImplicit false
namespace DL
open PySem PySem.Spec PyProof.Rows L2

/-! ## set(x): what is walked is told by the caller -/
abbrev oSet (w : World) : Obj :=
  { cls := .type "set", dict := none, data := .set #[] 0 (.fresh 0 0 (!w.params.followText "set-order")) }
section
variable {P : Program} {w : World} {A : Around} {E : Value → Shared → Prop} {s : Shared}
abbrev withSet (w : World) (s : Shared) : Shared := { s with heap := s.heap.push (oSet w) }
theorem set_made (x : Value) {Pz : Heap → Prop} {Q : Value → Shared → Prop} (hh : A.handled = none)
    (hany : ∀ (A' : Around) (E' : Value → Shared → Prop) (Q' : Bool → Shared → Prop), Q' false (withSet w s) → wpAny (model P w) A' (Builtin.Frozenset.isAnySet x) Q' E' (withSet w s))
    (hty : ∀ (A' : Around) (E' : Value → Shared → Prop) (Q' : Value → Shared → Prop), (∀ T : Value, (T == Value.type "dict") = false → Q' T (withSet w s)) → wpAny (model P w) A' (typeOf x) Q' E' (withSet w s))
    (hrun : ∀ (A' : Around) (E' : Value → Shared → Prop) (Q' : Value → Shared → Prop), A'.handled = none →
      (∀ (h' : Heap) (t' : Nat), Pz h' → (∀ b o, s.heap.get? b = some o → h'.get? b = some o) → Q' .none { s with heap := h', toks := t' }) →
      wpAny (model P w) A' (pyIter x) (fun it t => wpAny (model P w) A' (runValue (.builtin "set.update.loop" ⟨[.ref s.heap.objs.size, it], []⟩)) Q' E' t) E' (withSet w s))
    (h : ∀ (h' : Heap) (t' : Nat), Pz h' → (∀ b o, s.heap.get? b = some o → h'.get? b = some o) → Q (.ref s.heap.objs.size) { s with heap := h', toks := t' }) :
    wpAny (model P w) A (call (.type "set") [x]) Q E s := by
  obtain ⟨c0, c1, mro0⟩ := F.called_set.mro
  have made0 := F.called_set.made
  have sub0 := F.called_set.sub
  refine wpAny_call (codeAny_of_tree ?_)
  show wpAny _ _ (callAny (.type "set") ⟨[x], []⟩) _ _ _
  refine wpAny_pure ⟨Code.quiet_builtin _ (by decide +kernel), codeAny_builtin F.entry_type_call ?_⟩
  rw [Around.under_plain (weight_type_call_type "set" [x] []) rfl]
  have no0 := F.called_set.notType
  have can0 := F.called_set.canCreate
  have chk0 := F.typeCall_set_1 x
  repeat (any_goals (first | assumption | wp_step))
  refine codeAny_mono (code_set_led1 x (E := E) (Q₁ := fun ob t => ob = .ref s.heap.objs.size ∧ t = withSet w s) ⟨rfl, rfl⟩) fun r t hr => ?_
  cases r with
  | error e => exact hr
  | ok fl =>
    cases fl with
    | ret ob =>
      obtain ⟨rfl, rfl⟩ := hr
      have at0 : (s.heap.push (oSet w)).get? s.heap.objs.size = some (oSet w) := Heap.get?_push_size _ rfl
      have is0 : Shared.TypeIs (withSet w s) (.ref s.heap.objs.size) "set" := ⟨_, at0, rfl⟩
      have look0 := F.called_set.init.lookup
      have bind0 := F.called_set.init.bind (.ref s.heap.objs.size)
      repeat (any_goals (first | assumption | wp_step))
      refine codeAny_mono (codeAny_call_builtin (R := wants (fun r t => r = .none ∧ ∃ h' t', t = { s with heap := h', toks := t' } ∧ Pz h' ∧ (∀ b o, s.heap.get? b = some o → h'.get? b = some o)) E)
        F.called_set.init.plain F.entry_set_init (check_set_init_1 is0 ?_)) fun r2 t2 hr2 => ?_
      · unfold Builtin.«set.__init__» noKeywords Builtin.Frozenset.updateFrom
        generalize hPI : pyIter = PI
        generalize hAS : Builtin.Frozenset.isAnySet = AS
        wp_walk
        subst hAS
        refine hany _ _ _ ?_
        dsimp only
        rw [if_neg (by decide)]
        refine wpAny_bind (hty _ _ _ fun T hT => ?_)
        rw [if_neg (by rw [hT]; decide)]
        subst hPI
        have hh3 : A.in1.in1.handled = none := by simp [hh]
        refine wpAny_bind (wpAny_mono (hrun _ _ _ hh3 fun h' t' hP hk => ?_) (fun it t hit => wpAny_bind hit) fun _ _ e => e)
        refine wpAny_pure ?_
        show wpAny _ _ (ret Value.none) _ _ _
        exact wpAny_pure ⟨rfl, h', t', rfl, hP, hk⟩
      · cases r2 with
        | error e => exact hr2
        | ok f2 =>
          cases f2 with
          | ret r =>
            obtain ⟨rfl, h', t', rfl, hP, hk⟩ := hr2
            repeat (any_goals (first | assumption | wp_step))
            exact h _ _ hP hk
          | _ => exact hr2.elim
    | _ => exact hr.elim

theorem any_ref {x : Addr} {T : String} {A' : Around} {E' : Value → Shared → Prop} {Q' : Bool → Shared → Prop} {t : Shared} (hT : Shared.TypeIs t (.ref x) T) (h1 : isSubtype (.type T) (.type "set") = pure false) (h2 : isSubtype (.type T) (.type "frozenset") = pure false) (h : Q' false t) :
    wpAny (model P w) A' (Builtin.Frozenset.isAnySet (.ref x)) Q' E' t := by
  unfold Builtin.Frozenset.isAnySet orM
  refine wpAny_bind (wpAny_isInstance hT h1 ?_)
  show wpAny _ _ (isInstance (.ref x) (.type "frozenset")) _ _ t
  exact wpAny_isInstance hT h2 h
/-- the walk through one of ours, adding ints -/
theorem ints_run {l : Addr} {ns : List Int} {it : Obj} {items : Array Value} {St : Nat → Heap → Prop} {A' : Around} {E' Q' : Value → Shared → Prop}
    (hs : items.size = ns.length) (hit : IntsAre items.toList ns) (hb : ns.length + 1 < scanBound) (hl : l < s.heap.objs.size)
    (W : Walks P w A'.in1 (s.heap.objs.size + 1) [s.heap.objs.size + 1, l] [s.heap.objs.size + 1] items.size (fun i v => items[i]? = some v) St)
    (st0 : St 0 ((s.heap.push (oSet w)).push it))
    (q : ∀ (h' : Heap) (t' : Nat), (∃ c, c ≤ ns.length ∧ SetR w h' s.heap.objs.size (fun j => decide (j ∈ ns)) c) → (∀ b o, s.heap.get? b = some o → h'.get? b = some o) → Q' .none { s with heap := h', toks := t' }) :
    wpAny (model P w) A' (runValue (.builtin "set.update.loop" ⟨[.ref s.heap.objs.size, .ref (s.heap.objs.size + 1)], []⟩)) Q' E' { s with heap := (s.heap.push (oSet w)).push it } := by
  refine wpAny_runValue ?_
  have far : s.heap.objs.size ∉ [s.heap.objs.size + 1, l] := by
    simp only [List.mem_cons, List.not_mem_nil, or_false, not_or]
    exact ⟨Nat.ne_of_lt (Nat.lt_succ_self _), Nat.ne_of_gt hl⟩
  have at1 : ((s.heap.push (oSet w)).push it).get? s.heap.objs.size = some (oSet w) := Heap.get?_push_of_some _ (Heap.get?_push_size _ rfl)
  refine set_update_ints W.toS s.heap.objs.size far ns hs hb (fun i v hv => ?_) (items.size - 0) 0 { s with heap := (s.heap.push (oSet w)).push it } (by omega) (Nat.zero_le _) st0 ⟨0, Nat.le_refl 0, setR_new_at at1⟩ fun s' c hm hc hS => ?_
  · have hi : i < ns.length := by
      rw [← hs]
      exact (Array.getElem?_eq_some_iff.mp hv).1
    obtain ⟨t, e⟩ := PyProof.Rows.IntsAre.int_at hit i v (by rw [Array.getElem?_toList]; exact hv)
    refine ⟨ns[i], t, List.getElem?_eq_getElem hi, ?_⟩
    rw [e, List.getD_eq_getElem?_getD, List.getElem?_eq_getElem hi] <;> rfl
  · obtain ⟨h', g', d', t', o'⟩ := s'
    have e1 : g' = s.gens := hm.gens
    have e2 : d' = s.drawn := hm.drawn
    have e3 : o' = s.os := hm.os
    subst e1 e2 e3
    refine q h' t' ⟨c, by omega, hS⟩ fun b o e => ?_
    have lt0 : b < s.heap.objs.size := Heap.lt_size e
    refine hm.heap b o ?_ (Heap.get?_push_of_some _ (Heap.get?_push_of_some _ e))
    simp only [List.mem_cons, List.not_mem_nil, or_false, not_or]
    exact ⟨Nat.ne_of_lt lt0, Nat.ne_of_lt (Nat.lt_succ_of_lt lt0)⟩
theorem set_ints {l : Addr} {items : Array Value} {ns : List Int} {Q : Value → Shared → Prop} (hh : A.handled = none) (hl : s.heap.IsList l items ∨ s.heap.IsTuple l items) (hit : IntsAre items.toList ns) (hb : ns.length + 1 < scanBound)
    (h : ∀ (h' : Heap) (t' : Nat), (∃ c, c ≤ ns.length ∧ SetR w h' s.heap.objs.size (fun j => decide (j ∈ ns)) c) → (∀ b o, s.heap.get? b = some o → h'.get? b = some o) → Q (.ref s.heap.objs.size) { s with heap := h', toks := t' }) :
    wpAny (model P w) A (call (.type "set") [.ref l]) Q E s := by
  have hs : items.size = ns.length := by
    have := IntsAre.length hit
    rw [Array.length_toList] at this
    exact this
  have sz : (s.heap.push (oSet w)).objs.size = s.heap.objs.size + 1 := Heap.size_push ..
  rcases hl with hl | hl
  · obtain ⟨ol, hol, hc, nl, hd⟩ := hl
    have lt := Heap.lt_size hol
    have hl1 : (s.heap.push (oSet w)).IsList l items := ⟨ol, Heap.get?_push_of_some _ hol, hc, nl, hd⟩
    refine set_made (.ref l) hh (fun A' E' Q' q => any_ref hl1.typeIs F.sub_list_set F.sub_list_frozenset q) (fun A' E' Q' q => wpAny_typeOf hl1.typeIs (q _ (by decide))) (fun A' E' Q' hh' q => ?_) h
    refine wpAny_pyIter_list hl1 ?_
    rw [sz]
    have hne : l ≠ s.heap.objs.size + 1 := Nat.ne_of_lt (Nat.lt_succ_of_lt lt)
    exact ints_run hs hit hb lt (Walks.list (by simp [hh']) _ l hne items) ⟨⟨_, by rw [← sz]; exact Heap.get?_push_size _ rfl, rfl, rfl⟩, hl1.push _⟩ q
  · obtain ⟨ol, hol, hc, nl, hd⟩ := hl
    have lt := Heap.lt_size hol
    have hl1 : (s.heap.push (oSet w)).IsTuple l items := ⟨ol, Heap.get?_push_of_some _ hol, hc, nl, hd⟩
    refine set_made (.ref l) hh (fun A' E' Q' q => any_ref hl1.typeIs F.sub_tuple_set F.sub_tuple_frozenset q) (fun A' E' Q' q => wpAny_typeOf hl1.typeIs (q _ (by decide))) (fun A' E' Q' hh' q => ?_) h
    refine wpAny_pyIter_tuple hl1 ?_
    rw [sz]
    have hne : l ≠ s.heap.objs.size + 1 := Nat.ne_of_lt (Nat.lt_succ_of_lt lt)
    exact ints_run hs hit hb lt (Walks.tuple (by simp [hh']) _ l hne items) ⟨⟨_, by rw [← sz]; exact Heap.get?_push_size _ rfl, rfl, rfl⟩, hl1.push _⟩ q
end
end DL
end
section
set_option Elab.async false
set_option linter.all false
set_option maxRecDepth 100000
set_option maxHeartbeats 4000000
set_option autoImplicit false
namespace DL
open PySem PySem.Spec PyProof.Rows L2
variable [TN]

/-! ## sets of ints, as they are sorted -/
def insI (x : Int) : List Int → List Int
  | [] => [x]
  | y :: l => if x < y then x :: y :: l else if x = y then y :: l else y :: insI x l
def setI (ns : List Int) : List Int := ns.foldr insI []
theorem mem_insI {x k : Int} : ∀ {l : List Int}, k ∈ insI x l ↔ k = x ∨ k ∈ l
  | [] => by simp [insI]
  | y :: l => by
    unfold insI
    split
    · simp
    · split
      · rename_i e
        subst e
        simp
      · rw [List.mem_cons, mem_insI, List.mem_cons]
        exact or_left_comm
theorem insI_up {x : Int} : ∀ {l : List Int}, l.Pairwise (· < ·) → (insI x l).Pairwise (· < ·)
  | [], _ => List.pairwise_singleton _ _
  | y :: l, h => by
    have h1 := List.pairwise_cons.mp h
    unfold insI
    split
    · rename_i e
      refine List.pairwise_cons.mpr ⟨fun z hz => ?_, h⟩
      rcases List.mem_cons.mp hz with rfl | hz
      · exact e
      · exact Int.lt_trans e (h1.1 z hz)
    · split
      · exact h
      · refine List.pairwise_cons.mpr ⟨fun z hz => ?_, insI_up h1.2⟩
        rcases mem_insI.mp hz with rfl | hz
        · omega
        · exact h1.1 z hz
theorem setI_up : ∀ (ns : List Int), (setI ns).Pairwise (· < ·)
  | [] => .nil
  | x :: l => insI_up (setI_up l)
theorem mem_setI {k : Int} : ∀ {ns : List Int}, k ∈ setI ns ↔ k ∈ ns
  | [] => Iff.rfl
  | x :: l => by
    show k ∈ insI x (setI l) ↔ _
    rw [mem_insI, mem_setI, List.mem_cons]
theorem up_nodup {l : List Int} (h : l.Pairwise (· < ·)) : l.Nodup := h.imp fun h e => by omega
theorem up_unique {l m : List Int} (h1 : l.Pairwise (· < ·)) (h2 : m.Pairwise (· < ·)) (e : ∀ k, k ∈ l ↔ k ∈ m) : l = m :=
  List.Perm.eq_of_pairwise (fun a b _ _ h1 h2 => by omega) h1 h2 ((List.perm_ext_iff_of_nodup (up_nodup h1) (up_nodup h2)).mpr e)
def rSetI (w : World) : Rep V (List Int) := ⟨fun H0 F H v ns => ∃ p c, v = .ref p ∧ H0 p = none ∧ F p = none ∧ c ≤ ns.length ∧ H p = some (SetO w p (fun j => decide (j ∈ ns)) c),
  fun e ⟨p, c, e1, h, r⟩ => ⟨p, c, e1, e p h, r⟩, fun g ⟨p, c, e, h0, hf, hc, h⟩ => ⟨p, c, e, h0, g.n _ _ h hf, hc, g.h.at h⟩⟩
section
variable {C : Ctab} {X : Cx}
theorem cr_setI (hc : X.calm = true) : CallR X (.type "set") (fun xs H Q => ∃ (a : Addr) (ns : List Int), xs = [V.ref a] ∧ (SqL X.K H a (ns.map V.int) ∨ SqT X.K H a (ns.map V.int)) ∧ ns.length + 1 < scanBound ∧
    ∀ (p : Addr) (c : Nat), H p = none → c ≤ ns.length → Q (.ref p) (upd H p (SetO X.w p (fun j => decide (j ∈ ns)) c))) := by
  intro pins s σ H xs us Q I r q
  obtain ⟨a, ns, rfl, hq, hb, q⟩ := q
  rw [Vals.ref1 r]
  have fin : ∀ (h' : Heap) (t' : Nat), (∃ c, c ≤ ns.length ∧ SetR X.w h' s.heap.objs.size (fun j => decide (j ∈ ns)) c) → (∀ b o, s.heap.get? b = some o → h'.get? b = some o) →
      ∃ v H', Inv X pins σ H' { s with heap := h', toks := t' } ∧ RelV v (.ref s.heap.objs.size) ∧ Q v H' := fun h' t' ⟨c, hc', hS⟩ k =>
    ⟨.ref s.heap.objs.size, _, I.laid (t' := t') k (Nat.le_refl _) (setO_new hS), rfl, q _ c (I.hok.fresh (Nat.le_refl _)) hc'⟩
  rcases hq with hq | hq
  · obtain ⟨its, rv, pl, hz⟩ := I.list hq
    exact set_ints (I.ok.hd hc) (.inl pl.isList) rv.ints hb fin
  · obtain ⟨its, rv, pl, hz⟩ := I.tuple hq
    exact set_ints (I.ok.hd hc) (.inr pl) rv.ints hb fin
def setOf (l : List D) : Option (List Int) := if l.length < 4000 then intsD l else none
def D.setOf : D → Option (List Int)
  | .tup l => DL.setOf l
  | _ => none
theorem sets_ok {F H : Hp} {p : Addr} {c : Nat} {ns : List Int} (e : Ex F H) (hc : c ≤ ns.length) (hl : H p = none) : (rSetI X.w).r H F (upd H p (SetO X.w p (fun j => decide (j ∈ ns)) c)) (.ref p) ns :=
  ⟨p, c, rfl, hl, e.back hl, hc, upd_same⟩
theorem cd_setL (hc : X.calm = true) : CallD X (.type "set") (rL X.K C) (rSetI X.w) DL.setOf := by
  refine ⟨_, cr_setI hc, fun F H H0 x dx Q e r1 p => ?_⟩
  obtain ⟨a, vs, rfl, h1, a1⟩ := r1
  unfold DL.setOf at p
  split at p
  case isFalse => exact (show False from p).elim
  rename_i hl
  cases q : intsD dx with
  | none =>
    rw [q] at p
    exact (show False from p).elim
  | some ns =>
    rw [q] at p
    have e1 := ints_of q
    subst e1
    have e2 := a1.ints
    subst e2
    rw [List.length_map] at hl
    refine ⟨a, ns, rfl, .inl h1, ?_, fun l c hl hc => p _ _ _ (Gr.own e hl) (sets_ok e hc hl)⟩
    exact Nat.lt_trans (Nat.succ_lt_succ hl) (by decide)
theorem cd_setT (hc : X.calm = true) : CallD X (.type "set") (rD X.K C) (rSetI X.w) D.setOf := by
  refine ⟨_, cr_setI hc, fun F H H0 x dx Q e r1 p => ?_⟩
  cases dx <;> try (exact (show False from p).elim)
  rename_i dl
  cases r1 with
  | tup h1 a1 =>
  have p2 : PostV (rSetI X.w) F H Q (DL.setOf dl) := p
  clear p
  unfold DL.setOf at p2
  split at p2
  case isFalse => exact (show False from p2).elim
  rename_i hl
  cases q : intsD dl with
  | none =>
    rw [q] at p2
    exact (show False from p2).elim
  | some ns =>
    rw [q] at p2
    have e1 := ints_of q
    subst e1
    have e2 := a1.ints
    subst e2
    rw [List.length_map] at hl
    refine ⟨_, ns, rfl, .inr (ex_t e h1), ?_, fun l c hl hc => p2 _ _ _ (Gr.own e hl) (sets_ok e hc hl)⟩
    exact Nat.lt_trans (Nat.succ_lt_succ hl) (by decide)
/-- sorted(set(..)), fewer than 64 items -/
def sortSet (ns : List Int) : Option (List D) := if ns.length < 64 then some ((setI ns).map D.int) else none
theorem cd_sortSet (hc : X.calm = true) : CallD X (.builtin "sorted") (rSetI X.w) (rN X.K C) sortSet := by
  refine ⟨_, cr_sortedSet hc, fun F H H0 x dx Q e r1 p => ?_⟩
  obtain ⟨a, c, rfl, h0, hf, hc', hh⟩ := r1
  unfold sortSet at p
  split at p
  case isFalse => exact (show False from p).elim
  rename_i hl
  refine ⟨a, _, c, rfl, hh, by omega, fun ns l up mem len hl => p _ _ _ (Gr.own e hl) ⟨l, _, rfl, hl, e.back hl, upd_same, ?_⟩⟩
  rw [up_unique up (setI_up dx) fun k => by rw [mem, mem_setI, decide_eq_true_eq]]
  exact RpA.of_ints _
end
end DL
end
section
set_option Elab.async false
set_option linter.all false
set_option maxRecDepth 100000
set_option maxHeartbeats 4000000
set_option autoImplicit false
namespace DL
open PySem PySem.Spec PyProof.Rows L2

/-! ## a set of texts that rises and can be walked -/
theorem is_txt {P : Program} {w : World} (k : Str) (u : Tok) : (PySem.strKind P w).is k (.str k u) = true := by
  show Value.isStrOf k (.str k u) = true
  simp [Value.isStrOf]
def txOf (e : Int × Value) : Str := match e.2 with
  | .str k _ => k
  | _ => ""
def TxE (w : World) (e : Int × Value) : Prop := ∃ k t, e.2 = Value.str k t ∧ e.1 = hashStr w k
/-- S: its members, n: their number -/
def SetX (w : World) (h : Heap) (a : Addr) (S : Str → Bool) (n : Nat) : Prop :=
  ∃ o es ep t, h.get? a = some o ∧ o.ExactSet ∧ o.data = .set es ep t ∧ (∀ e ∈ es.toList, TxE w e) ∧ (es.toList.map txOf).Nodup ∧ (∀ k, S k = true ↔ k ∈ es.toList.map txOf) ∧
    es.size < scanBound ∧ t.fits es.size = true ∧ es.size = n ∧ Ris t.place.toList ∧ (w.params.followText "set-order" = true ∨ t.led = true)
section
variable {P : Program} {w : World} {A : Around} {E : Value → Shared → Prop} {s : Shared} {h h' : Heap} {a : Addr} {S : Str → Bool} {n : Nat}
theorem SetX.at (R : SetX w h a S n) (k : ∀ o, h.get? a = some o → h'.get? a = some o) : SetX w h' a S n := by
  obtain ⟨o, es, ep, t, ho, r⟩ := R
  exact ⟨o, es, ep, t, k o ho, r⟩
theorem SetX.congr {S' : Str → Bool} (R : SetX w h a S n) (e : ∀ k, S' k = S k) : SetX w h a S' n := by
  obtain rfl : S' = S := funext e
  exact R
theorem tx_elems {l : List (Int × Value)} (g : ∀ e ∈ l, TxE w e) : ElemsOf (PySem.strKind P w) l := fun e he => by
  obtain ⟨k, t, h1, h2⟩ := g e he
  refine ⟨⟨k, ?_, h2⟩, by rw [h1] <;> rfl⟩
  rw [h1]
  exact is_txt k t
theorem tx_is {e : Int × Value} (g : TxE w e) (k : Str) : (PySem.strKind P w).is k e.2 = true ↔ txOf e = k := by
  obtain ⟨k0, t, h1, _⟩ := g
  unfold txOf
  rw [h1]
  constructor
  · intro q
    have q' : Value.isStrOf k (.str k0 t) = true := q
    simpa [Value.isStrOf] using q'
  · intro q
    have q' : k0 = k := q
    subst q'
    exact is_txt k0 t
theorem tx_mem {l : List (Int × Value)} (g : ∀ e ∈ l, TxE w e) (k : Str) : k ∈ l.map txOf ↔ ∃ e ∈ l, (PySem.strKind P w).is k e.2 = true := by
  rw [List.mem_map]
  exact ⟨fun ⟨e, he, q⟩ => ⟨e, he, (tx_is (g e he) k).2 q⟩, fun ⟨e, he, q⟩ => ⟨e, he, (tx_is (g e he) k).1 q⟩⟩
theorem tx_tail {g : Bool → Sem Unit} (hg : ∀ (b : Bool) (t : Shared) (Q' : Unit → Shared → Prop), Q' () t → wpAny (model P w) A (g b) Q' E t)
    {o : Obj} {es es1 : Array (Int × Value)} {ep : Nat} {t t2 : SetTable} {S' : Str → Bool} {gone : Bool} {R : Option Bool → Shared → Prop} (ho : s.heap.get? a = some o) (hex : o.ExactSet) (hd : o.data = .set es ep t)
    (g1 : ∀ e ∈ es1.toList, TxE w e) (nd1 : (es1.toList.map txOf).Nodup) (m1 : ∀ k, S' k = true ↔ k ∈ es1.toList.map txOf)
    (hb1 : es1.size < scanBound) (hf2 : t2.fits es1.size = true) (hr : Ris t2.place.toList) (hl : w.params.followText "set-order" = true ∨ t2.led = true)
    (hR : ∀ h', Heap.SameBut a s.heap h' → SetX w h' a S' es1.size → R (some true) { s with heap := h' }) :
    wpAny (model P w) A (do
        storeSet a es1 t2
        if (!gone && t2.tooFull) = true then do
            g (relayAll t2 es1 (SetTable.grown es1.size)).2.2
            storeSet a (relayAll t2 es1 (SetTable.grown es1.size)).1 (relayAll t2 es1 (SetTable.grown es1.size)).2.1
            pure (some true)
          else pure (some true)) R E s := by
  refine wpAny_bind (wpAny_storeSet_of ho hd ?_ (fits_of_scanBound hb1))
  have at1 := store_at (es' := es1) (t' := t2) ho hd
  have but1 := Heap.SameBut.update s.heap a (Obj.putSet es1 t2)
  split
  · have q1 := relayAll_perm t2 es1 (SetTable.grown es1.size)
    have q2 := relayAll_fits t2 es1 (SetTable.grown es1.size)
    have q3 := relayAll_ris t2 es1 (SetTable.grown es1.size)
    have q4 := relayAll_led t2 es1 (SetTable.grown es1.size)
    generalize relayAll t2 es1 (SetTable.grown es1.size) = Z at q1 q2 q3 q4 ⊢
    obtain ⟨es2, t3, gv⟩ := Z
    dsimp only at q1 q2 q3 q4 ⊢
    have zz : es2.size = es1.size := by rw [← Array.length_toList, q1.length_eq, Array.length_toList]
    have bb : es2.size < scanBound := by
      rw [zz]
      exact hb1
    refine wpAny_bind (hg _ _ _ ?_)
    refine wpAny_bind (wpAny_storeSet_of at1 rfl ?_ (fits_of_scanBound bb))
    have at2 := store_at (es' := es2) (t' := t3) at1 rfl
    refine wpAny_pure (hR _ (but1.trans (Heap.SameBut.update _ a _)) ?_)
    refine ⟨_, es2, _, t3, at2, hex, rfl, fun e he => g1 e (q1.mem_iff.mp he), (q1.map txOf).nodup_iff.mpr nd1, fun k => (m1 k).trans (q1.map txOf).mem_iff.symm, bb, q2, zz, q3, hl.imp id fun z => ?_⟩
    rw [q4]
    exact z
  · exact wpAny_pure (hR _ but1 ⟨_, es1, _, t2, at1, hex, rfl, g1, nd1, m1, hb1, hf2, rfl, hr, hl⟩)
theorem tx_add {k : Str} {u : Tok} {Q : Bool → Shared → Prop} (R : SetX w s.heap a S n) (room : n + 1 < scanBound)
    (hQ : ∀ h', Heap.SameBut a s.heap h' → SetX w h' a (fun j => S j || decide (j = k)) (if S k = true then n else n + 1) → Q (!S k) { s with heap := h' }) :
    wpAny (model P w) A (setAddHashed a (.str k u) ((PySem.strKind P w).hash k)) Q E s := by
  obtain ⟨o, es, ep, t, ho, hex, hd, g, nd, hm, hb, hf, hn, hr, hl⟩ := R
  have key0 : (PySem.strKind P w).is k (.str k u) = true := is_txt k u
  have scan0 : (Value.str k u).scannable = true := rfl
  have hel : ElemsOf (PySem.strKind P w) es.toList := tx_elems g
  unfold setAddHashed setAddHashedIn
  refine wpAny_holding (wpAny_bind (wpAny_setState_of ho hd hf ?_))
  dsimp only
  rw [byScan_of scan0 hb hel]
  simp only [↓reduceIte]
  unfold setAddByScan
  refine wpAny_bind ?_
  refine wpAny_bind (wpAny_rule ?_)
  refine wpAny_bind (wpAny_setScan_of key0 ho hd hf hel ?_)
  cases hfi : List.findIdx? (fun e => (PySem.strKind P w).is k e.2) es.toList with
  | some j =>
    dsimp only
    obtain ⟨hj, pj, _⟩ := List.findIdx?_eq_some_iff_getElem.mp hfi
    have has : S k = true := (hm k).2 ((tx_mem (P := P) (w := w) g k).2 ⟨es.toList[j], List.getElem_mem hj, pj⟩)
    refine wpAny_pure (wpAny_pure ?_)
    have q := hQ s.heap (Heap.SameBut.refl a s.heap) ⟨o, es, ep, t, ho, hex, hd, g, nd, fun i => ?_, hb, hf, ?_, hr, hl⟩
    · rw [has] at q
      exact q
    · rw [Bool.or_eq_true, decide_eq_true_eq, ← hm i]
      exact ⟨fun z => z.elim id (fun e => e ▸ has), .inl⟩
    · rw [if_pos has]
      exact hn
  | none =>
    dsimp only
    have new : k ∉ es.toList.map txOf := fun z => by
      obtain ⟨e, he, q⟩ := (tx_mem (P := P) (w := w) g k).1 z
      have c := List.findIdx?_eq_none_iff.mp hfi e he
      rw [q] at c
      cases c
    have has : S k = false := by
      cases q : S k with
      | false => rfl
      | true => exact absurd ((hm k).1 q) new
    have gw : ∀ (b : Bool) {t : Shared} {Q' : Unit → Shared → Prop}, Q' () t → wpAny (model P w) A (match b with | true => rule "set.scan.the-table-gave-way" | false => pure ()) Q' E t :=
      fun b t Q' q => by cases b <;> first | exact wpAny_pure q | exact wpAny_rule q
    have q1 := layNew_perm t es ((PySem.strKind P w).hash k) (.str k u)
    have q2 := layNew_fits t es ((PySem.strKind P w).hash k) (.str k u)
    have q3 := layNew_ris t es ((PySem.strKind P w).hash k) (.str k u) hr
    have q4 := layNew_led t es ((PySem.strKind P w).hash k) (.str k u)
    generalize layNew t es ((PySem.strKind P w).hash k) (.str k u) = Z at q1 q2 q3 q4 ⊢
    obtain ⟨es1, t1, gone, gv⟩ := Z
    dsimp only at q1 q2 q3 q4 ⊢
    rw [Array.toList_push] at q1
    have pc : es1.toList.Perm (((PySem.strKind P w).hash k, Value.str k u) :: es.toList) := q1.trans (List.perm_append_singleton _ _)
    have pk : (es1.toList.map txOf).Perm (k :: es.toList.map txOf) := pc.map txOf
    have g1 : ∀ e ∈ es1.toList, TxE w e := fun e he => by
      rcases List.mem_cons.mp (pc.mem_iff.mp he) with z | z
      · rw [z]
        exact ⟨k, u, rfl, rfl⟩
      · exact g e z
    have nd1 : (es1.toList.map txOf).Nodup := pk.nodup_iff.mpr (List.nodup_cons.mpr ⟨new, nd⟩)
    have m1 : ∀ i, (S i || decide (i = k)) = true ↔ i ∈ es1.toList.map txOf := fun i => by
      rw [Bool.or_eq_true, decide_eq_true_eq, hm i, pk.mem_iff, List.mem_cons]
      exact Or.comm
    have zz : es1.size = n + 1 := by rw [← Array.length_toList, pc.length_eq, List.length_cons, Array.length_toList, hn]
    have bb : es1.size < scanBound := by
      rw [zz]
      exact room
    have led : w.params.followText "set-order" = true ∨ t1.led = true := hl.imp id fun z => by
      rw [q4]
      exact z
    have fin : ∀ h', Heap.SameBut a s.heap h' → SetX w h' a (fun j => S j || decide (j = k)) es1.size → Q true { s with heap := h' } := fun h' sb r => by
      have q := hQ h' sb
      rw [has] at q
      rw [zz] at r
      exact q r
    refine wpAny_bind (gw _ ?_)
    split
    · refine wpAny_bind ?_
      rw [hashByValue_scannable 8 scan0]
      refine wpAny_pure ?_
      refine tx_tail ?_ ho hex hd g1 nd1 m1 bb ?_ ?_ ?_ ?_
      · intro b t Q' q
        cases b <;> first | exact wpAny_pure q | exact wpAny_rule q
      · first | (split <;> first | exact q2 | exact SetTable.fits_plain_off q2) | exact q2
      · first | (split <;> exact q3) | exact q3
      · first | (split <;> exact led) | exact led
      · intro h' sb r
        dsimp only
        exact wpAny_pure (fin h' sb r)
    · refine wpAny_bind (wpAny_pure ?_)
      simp only [↓reduceIte]
      refine tx_tail ?_ ho hex hd g1 nd1 m1 bb q2 q3 led ?_
      · intro b t Q' q
        cases b <;> first | exact wpAny_pure q | exact wpAny_rule q
      · intro h' sb r
        dsimp only
        exact wpAny_pure (fin h' sb r)
end
end DL
end
section
set_option Elab.async false
set_option linter.all false
set_option maxRecDepth 100000
set_option maxHeartbeats 4000000
set_option autoImplicit false
namespace DL
open PySem PySem.Spec PyProof.Rows L2

section
variable {P : Program} {w : World} {A : Around} {E : Value → Shared → Prop} {s : Shared} {h h' : Heap} {a : Addr} {S : Str → Bool} {n : Nat}
theorem setX_new {ks : List Str} (ho : h.get? a = some (oSet w)) : SetX w h a (fun j => decide (j ∈ ks.take 0)) 0 := by
  refine ⟨_, #[], 0, _, ho, ⟨rfl, rfl, rfl⟩, rfl, (fun e he => by simp at he), (by simp), (fun k => by simp), (by decide), (by rfl), rfl, List.Pairwise.nil, ?_⟩
  show _ ∨ (!w.params.followText "set-order") = true
  cases w.params.followText "set-order"
  · exact .inr rfl
  · exact .inl rfl
theorem texts_loop {I : Addr} {fp wr : List Addr} {G : Array GenState → Array GenState → Prop} {Pv : Nat → Value → Prop} {St : Nat → Shared → Prop} {R : Result → Shared → Prop}
    (W : WalksS P w A.in1 I fp wr G n Pv St) (hS0 : a ∉ fp) (ks : List Str) (hn : n = ks.length) (hb : ks.length + 1 < scanBound) (hv : ∀ i v, Pv i v → ∃ k t, ks[i]? = some k ∧ v = .str k t) :
    ∀ (m i : Nat) (s : Shared), n - i = m → i ≤ n → St i s → (∃ c, c ≤ i ∧ SetX w s.heap a (fun j => decide (j ∈ ks.take i)) c) →
      (∀ s' c, Moved (a :: wr) G s s' → c ≤ n → SetX w s'.heap a (fun j => decide (j ∈ ks)) c → R (.ok (.ret .none)) s') →
      codeAny (model P w) A (.builtin "set.update.loop" ⟨[.ref a, .ref I], []⟩) R s := by
  have out0 : a ∉ wr := fun z => hS0 (W.sub _ z)
  have sub0 : ∀ b ∈ wr, b ∈ a :: wr := fun b hb => List.mem_cons_of_mem _ hb
  intro m
  induction m with
  | zero =>
    intro i s hm hi st ⟨c, hc, hS⟩ hR
    obtain rfl : i = n := by omega
    refine codeAny_builtin F.entry_set_update_loop ?_
    rw [Around.under_plainId F.plain_set_update_loop _]
    show wpAny _ A.in1 (pyNext (.ref I) >>= _) _ _ s
    refine wpAny_bind (W.done s _ _ st fun s' mv => ?_)
    show wpAny _ A.in1 (ret Value.none) _ _ s'
    rw [show ks.take i = ks from List.take_of_length_le (by omega)] at hS
    exact wpAny_pure (hR s' c (mv.mono sub0) hc (hS.at fun o e => mv.heap a o out0 e))
  | succ m ih =>
    intro i s hm hi st ⟨c, hc, hS⟩ hR
    have hlt : i < n := by omega
    refine codeAny_builtin F.entry_set_update_loop ?_
    rw [Around.under_plainId F.plain_set_update_loop _]
    show wpAny _ A.in1 (pyNext (.ref I) >>= _) _ _ s
    refine wpAny_bind (W.item i s _ _ hlt st fun v s' hP st' mv => ?_)
    obtain ⟨k, t, hk, rfl⟩ := hv i v hP
    have hS1 : SetX w s'.heap a (fun j => decide (j ∈ ks.take i)) c := hS.at fun o e => mv.heap a o out0 e
    show wpAny _ A.in1 (holding [Value.str k t] (setAdd a (.str k t)) >>= _) _ _ s'
    refine wpAny_bind (wpAny_holding ?_)
    unfold setAdd
    refine wpAny_holding ?_
    refine wpAny_bind ((PySem.strKind P w).pyHash (k := k) (is_txt k t) ?_)
    refine tx_add (s := { s' with toks := s'.toks + 1 }) hS1 (by omega) fun h' sb hS2 => ?_
    have hS3 : SetX w h' a (fun j => decide (j ∈ ks.take (i + 1))) (if decide (k ∈ ks.take i) = true then c else c + 1) := hS2.congr fun j => by
      rw [List.take_add_one, hk]
      simp [List.mem_append]
    have hc3 : (if decide (k ∈ ks.take i) = true then c else c + 1) ≤ i + 1 := by
      split <;> omega
    refine wpAny_pure ⟨plainId_quiet F.plain_set_update_loop _, ih (i + 1) _ (by omega) hlt (W.frame _ s' _ _ st' (Nat.le_succ _) fun b hb o e => ?_) ⟨_, hc3, hS3⟩ fun s2 c2 mv2 hc2 hS4 => ?_⟩
    · rw [sb.2 b (fun z : b = a => hS0 (by rw [← z]; exact hb))]
      exact e
    · refine hR s2 c2 (Moved.trans W.gtrans ((mv.mono sub0).then_heap (Nat.le_succ _) fun b o hb e => ?_) mv2) hc2 hS4
      rw [sb.2 b (fun z : b = a => hb (by rw [z]; exact List.mem_cons_self))]
      exact e
theorem texts_run {ks : List Str} {it : Obj} {fp : List Addr} {St : Nat → Heap → Prop} {Pv : Nat → Value → Prop} {A' : Around} {E' Q' : Value → Shared → Prop}
    (hn : n = ks.length) (hb : ks.length + 1 < scanBound) (far : s.heap.objs.size ∉ fp)
    (W : Walks P w A'.in1 (s.heap.objs.size + 1) fp [s.heap.objs.size + 1] n Pv St) (hv : ∀ i v, Pv i v → ∃ k t, ks[i]? = some k ∧ v = .str k t)
    (st0 : St 0 ((s.heap.push (oSet w)).push it))
    (q : ∀ (h' : Heap) (t' : Nat), (∃ c, c ≤ ks.length ∧ SetX w h' s.heap.objs.size (fun j => decide (j ∈ ks)) c) → (∀ b o, s.heap.get? b = some o → h'.get? b = some o) → Q' .none { s with heap := h', toks := t' }) :
    wpAny (model P w) A' (runValue (.builtin "set.update.loop" ⟨[.ref s.heap.objs.size, .ref (s.heap.objs.size + 1)], []⟩)) Q' E' { s with heap := (s.heap.push (oSet w)).push it } := by
  refine wpAny_runValue ?_
  have at1 : ((s.heap.push (oSet w)).push it).get? s.heap.objs.size = some (oSet w) := Heap.get?_push_of_some _ (Heap.get?_push_size _ rfl)
  refine texts_loop W.toS far ks hn hb hv (n - 0) 0 { s with heap := (s.heap.push (oSet w)).push it } (by omega) (Nat.zero_le _) st0 ⟨0, Nat.le_refl 0, setX_new at1⟩ fun s' c mv hc hS => ?_
  obtain ⟨h', g', d', t', o'⟩ := s'
  have e1 : g' = s.gens := mv.gens
  have e2 : d' = s.drawn := mv.drawn
  have e3 : o' = s.os := mv.os
  subst e1 e2 e3
  refine q h' t' ⟨c, by omega, hS⟩ fun b o e => ?_
  have lt0 : b < s.heap.objs.size := Heap.lt_size e
  refine mv.heap b o ?_ (Heap.get?_push_of_some _ (Heap.get?_push_of_some _ e))
  simp only [List.mem_cons, List.not_mem_nil, or_false, not_or]
  exact ⟨Nat.ne_of_lt lt0, Nat.ne_of_lt (Nat.lt_succ_of_lt lt0)⟩
def signsOf (x : Str) : List Str := x.cps.toList.map fun c => ⟨#[c]⟩
theorem set_text {x : Str} {u : Tok} {Q : Value → Shared → Prop} (hh : A.handled = none) (hb : x.cps.size + 1 < scanBound)
    (h : ∀ (h' : Heap) (t' : Nat), (∃ c, c ≤ (signsOf x).length ∧ SetX w h' s.heap.objs.size (fun j => decide (j ∈ signsOf x)) c) → (∀ b o, s.heap.get? b = some o → h'.get? b = some o) → Q (.ref s.heap.objs.size) { s with heap := h', toks := t' }) :
    wpAny (model P w) A (call (.type "set") [.str x u]) Q E s := by
  have len : (signsOf x).length = x.cps.size := by
    unfold signsOf
    rw [List.length_map, Array.length_toList]
  have sz : (s.heap.push (oSet w)).objs.size = s.heap.objs.size + 1 := Heap.size_push ..
  refine set_made (.str x u) hh (fun A' E' Q' q => Fz.anySet q) (fun A' E' Q' q => wpAny_typeOf (typeIs_str _ _ _) (q _ (by decide))) (fun A' E' Q' hh' q => ?_) h
  refine wpAny_pyIter_strU ?_
  rw [sz]
  have far : s.heap.objs.size ∉ [s.heap.objs.size + 1] := by
    simp only [List.mem_cons, List.not_mem_nil, or_false]
    exact Nat.ne_of_lt (Nat.lt_succ_self _)
  have st0 : ∀ T, ((s.heap.push (oSet w)).push { cls := .type T, data := .fields #[.str x u, .int 0 0] }).IsStrIter (s.heap.objs.size + 1) T x u 0 := fun T => ⟨_, by rw [← sz]; exact Heap.get?_push_size _ rfl, rfl, rfl⟩
  have hv : ∀ i v, SignAt x i v → ∃ k t, (signsOf x)[i]? = some k ∧ v = .str k t := fun i v ⟨c, t, e, ev⟩ => ⟨_, t, by
    unfold signsOf
    rw [List.getElem?_map, Array.getElem?_toList, e] <;> rfl, ev⟩
  unfold strIterType
  split
  · exact texts_run len.symm (by rw [len]; exact hb) far (Walks.strAscii (by simp [hh']) _ x u) hv (st0 _) q
  · exact texts_run len.symm (by rw [len]; exact hb) far (Walks.strWide (by simp [hh']) _ x u) hv (st0 _) q
theorem sorted_setX {Q : Value → Shared → Prop} (R : SetX w s.heap a S n) (hh : A.handled = none) (h64 : n < 64)
    (hQ : ∀ s' p (out : Array Value) (c : Nat) (ks : List Str), (∀ b o, s.heap.get? b = some o → s'.heap.get? b = some o) → s'.gens = s.gens → s'.os = s.os → s.heap.objs.size ≤ p →
      s'.heap.get? p = some (seqObj "list" out c) → StrsAre out.toList ks → sortedS ks = true → ks.Nodup → (∀ k, k ∈ ks ↔ S k = true) → ks.length = n → Q (.ref p) s') :
    wpAny (model P w) A (call (.builtin "sorted") [.ref a]) Q E s := by
  obtain ⟨o, es, ep, t, ho, hex, hd, g, nd, hm, hb, hf, hn, hr, hl⟩ := R
  refine Calls.call_function_entry kind_sorted plain_sorted entry_sorted (args_sorted1 _) ?_
  unfold Builtin.«sorted»
  refine wpAny_bind (m := checkCount "sorted" 1 1 _) (wpAny_pure ?_)
  refine wpAny_bind (collect_set (A := A.in1) hh ⟨o, ho, hex.1, hd⟩ hf hb hr hl fun s1 vs k1 hz g1 o1 pm => ?_)
  have len : vs.length = n := by
    rw [pm.length_eq, List.length_map, Array.length_toList]
    exact hn
  have hS : StrsAre vs (vs.map strOf) := strsAre_map vs fun v hv => by
    obtain ⟨e, he, q⟩ := List.mem_map.mp (pm.mem_iff.mp hv)
    obtain ⟨k, tk, h1, _⟩ := g e he
    exact ⟨k, tk, by rw [← q]; exact h1⟩
  have pk : (vs.map strOf).Perm (es.toList.map txOf) := by
    have q := pm.map strOf
    rw [List.map_map] at q
    refine q.trans (List.Perm.of_eq (List.map_congr_left fun e he => ?_))
    obtain ⟨k, tk, h1, _⟩ := g e he
    show strOf e.2 = txOf e
    unfold txOf
    rw [h1] <;> rfl
  refine wpAny_bind (wpAny_newList ?_ (by rw [len, sizeLine_eq]; omega))
  have at1 : (s1.heap.push (seqObj "list" vs.toArray 0)).get? s1.heap.objs.size = some (seqObj "list" vs.toArray 0) := Heap.get?_push_size _ rfl
  refine wpAny_bind (wpAny_holding (wpAny_call_entry slot_list_sort ⟨_, at1, rfl⟩ entry_list_sort (list_sort_treeK strKind_oneLt at1 hS.keysOf (fun v₁ v₂ rest e => keyKind_strs (by rw [← e]; exact hS)) (by rw [len]; exact h64) fun st' hp hs => ⟨_, rfl, ?_⟩) (args_list_sort _)))
  obtain ⟨ks, a1, a2, a3⟩ := sorted_out_str hS hp hs
  obtain ⟨c, hc⟩ := sortedHeap_at (vs := vs) (out := (arrOf st').map (·.2)) at1
  have pn : ks.Perm (es.toList.map txOf) := a2.trans pk
  refine wpAny_pure ⟨_, rfl, hQ _ s1.heap.objs.size _ c ks (fun b u e => ?_) g1 o1 hz hc a1 a3 (pn.nodup_iff.mpr nd) (fun k => by rw [pn.mem_iff, ← hm k]) ?_⟩
  · have q := k1 b u e
    have lt0 := Heap.lt_size q
    show (sortedHeap (s1.heap.push (seqObj "list" vs.toArray 0)) s1.heap.objs.size vs _).get? b = some u
    rw [sortedHeap_old (Nat.ne_of_lt lt0) (by rw [size_push']; exact Nat.lt_succ_of_lt lt0)]
    exact Heap.get?_push_of_some _ q
  · rw [pn.length_eq, List.length_map, Array.length_toList]
    exact hn
end
end DL
end
section
set_option Elab.async false
set_option linter.all false
set_option maxRecDepth 100000
set_option maxHeartbeats 4000000
set_option autoImplicit false
namespace DL
open PySem PySem.Spec PyProof.Rows L2
variable [TN]

/-! ## texts in order -/
def ltS (x y : Str) : Bool := ltCps x.cps.toList y.cps.toList
theorem ltS_iff {x y : Str} : ltS x y = true ↔ x.cps.toList < y.cps.toList := by
  unfold ltS
  rw [ltCps_eq, decide_eq_true_eq]
theorem ltS_no {x y : Str} : ltS x y = false ↔ y.cps.toList ≤ x.cps.toList := by
  rw [← Bool.not_eq_true, ltS_iff]
  exact List.not_lt
theorem ltS_eq {x y : Str} (h1 : ltS x y = false) (h2 : ltS y x = false) : x = y := by
  have e := List.le_antisymm (ltS_no.mp h2) (ltS_no.mp h1)
  cases x
  cases y
  congr
  exact Array.toList_inj.mp e
theorem ltS_le {x y : Str} (h : ltS x y = true) : ltS y x = false := by
  cases q : ltS y x with
  | false => rfl
  | true => exact absurd (ltS_iff.mp q) (List.lt_asymm (ltS_iff.mp h))
theorem leS_trans {x y z : Str} (h1 : ltS y x = false) (h2 : ltS z y = false) : ltS z x = false := ltS_no.mpr (List.le_trans (ltS_no.mp h1) (ltS_no.mp h2))
abbrev UpS (l : List Str) : Prop := l.Pairwise fun a b => ltS b a = false
theorem ups_rise : ∀ {l : List Str} {x : Str}, risingS x l = true → UpS (x :: l)
  | [], x, _ => List.pairwise_singleton _ _
  | y :: l, x, h => by
    have h' : (!ltCps y.cps.toList x.cps.toList && risingS y l) = true := h
    rw [Bool.and_eq_true, Bool.not_eq_true'] at h'
    have ih := ups_rise h'.2
    refine List.pairwise_cons.mpr ⟨fun z hz => ?_, ih⟩
    rcases List.mem_cons.mp hz with rfl | hz
    · exact h'.1
    · exact leS_trans h'.1 ((List.pairwise_cons.mp ih).1 z hz)
theorem ups_of : ∀ {l : List Str}, sortedS l = true → UpS l
  | [], _ => .nil
  | _ :: _, h => ups_rise h
theorem ups_unique {l m : List Str} (h1 : UpS l) (h2 : UpS m) (p : l.Perm m) : l = m := List.Perm.eq_of_pairwise (fun a b _ _ h1 h2 => ltS_eq h2 h1) h1 h2 p
/-- into its place (dup: also where it is there already) -/
def insT (dup : Bool) (x : Str) : List Str → List Str
  | [] => [x]
  | y :: l => if ltS x y = true then x :: y :: l else if (!dup && x == y) = true then y :: l else y :: insT dup x l
def sortT (dup : Bool) (ks : List Str) : List Str := ks.foldr (insT dup) []
theorem mem_insT {b : Bool} {x k : Str} : ∀ {l : List Str}, k ∈ insT b x l ↔ k = x ∨ k ∈ l
  | [] => by simp [insT]
  | y :: l => by
    unfold insT
    split
    · simp
    · split
      · rename_i e
        have e' : x = y := by
          have := (Bool.and_eq_true _ _ ▸ e : (!b) = true ∧ (x == y) = true).2
          exact beq_iff_eq.mp this
        subst e'
        simp
      · rw [List.mem_cons, mem_insT, List.mem_cons]
        exact or_left_comm
theorem insT_up {b : Bool} {x : Str} : ∀ {l : List Str}, UpS l → UpS (insT b x l)
  | [], _ => List.pairwise_singleton _ _
  | y :: l, h => by
    have h1 := List.pairwise_cons.mp h
    unfold insT
    split
    · rename_i e
      refine List.pairwise_cons.mpr ⟨fun z hz => ?_, h⟩
      rcases List.mem_cons.mp hz with rfl | hz
      · exact ltS_le e
      · exact leS_trans (ltS_le e) (h1.1 z hz)
    · rename_i e
      split
      · exact h
      · refine List.pairwise_cons.mpr ⟨fun z hz => ?_, insT_up h1.2⟩
        rcases mem_insT.mp hz with rfl | hz
        · exact Bool.not_eq_true _ ▸ e
        · exact h1.1 z hz
theorem sortT_up {b : Bool} : ∀ (ks : List Str), UpS (sortT b ks)
  | [] => .nil
  | _ :: l => insT_up (sortT_up l)
theorem mem_sortT {b : Bool} {k : Str} : ∀ {ks : List Str}, k ∈ sortT b ks ↔ k ∈ ks
  | [] => Iff.rfl
  | x :: l => by
    show k ∈ insT b x (sortT b l) ↔ _
    rw [mem_insT, mem_sortT, List.mem_cons]
theorem insT_perm {x : Str} : ∀ {l : List Str}, (insT true x l).Perm (x :: l)
  | [] => .refl _
  | y :: l => by
    unfold insT
    split
    · exact .refl _
    · rw [if_neg (by simp)]
      exact (insT_perm.cons y).trans (.swap x y l)
theorem sortT_perm : ∀ (ks : List Str), (sortT true ks).Perm ks
  | [] => .refl _
  | x :: l => insT_perm.trans ((sortT_perm l).cons x)
theorem insT_nodup {x : Str} : ∀ {l : List Str}, UpS l → l.Nodup → (insT false x l).Nodup
  | [], _, _ => List.nodup_cons.mpr ⟨List.not_mem_nil, List.nodup_nil⟩
  | y :: l, u, h => by
    have h1 := List.nodup_cons.mp h
    have u1 := List.pairwise_cons.mp u
    unfold insT
    split
    · rename_i e
      refine List.nodup_cons.mpr ⟨fun z => ?_, h⟩
      rcases List.mem_cons.mp z with q | q
      · subst q
        rw [ltS_le e] at e
        cases e
      · have := u1.1 x q
        rw [this] at e
        cases e
    · split
      · exact h
      · rename_i e1 e2
        refine List.nodup_cons.mpr ⟨fun z => ?_, insT_nodup u1.2 h1.2⟩
        rcases mem_insT.mp z with q | q
        · subst q
          simp at e2
        · exact h1.1 q
theorem sortT_nodup : ∀ (ks : List Str), (sortT false ks).Nodup
  | [] => List.nodup_nil
  | _ :: l => insT_nodup (sortT_up l) (sortT_nodup l)
end DL
end
section
set_option Elab.async false
set_option linter.all false
set_option maxRecDepth 100000
set_option maxHeartbeats 4000000
set_option autoImplicit false
namespace DL
open PySem PySem.Spec PyProof.Rows L2
variable [TN]

/-! ## sets of texts, sorted texts -/
def SetXO (w : World) (a : Addr) (S : Str → Bool) (n : Nat) : HO := .ext fun h => SetX w h a S n
def rSetX (w : World) : Rep V (List Str) := ⟨fun H0 F H v ks => ∃ p c, v = .ref p ∧ H0 p = none ∧ F p = none ∧ c ≤ ks.length ∧ H p = some (SetXO w p (fun j => decide (j ∈ ks)) c),
  fun e ⟨p, c, e1, h, r⟩ => ⟨p, c, e1, e p h, r⟩, fun g ⟨p, c, e, h0, hf, hc, h⟩ => ⟨p, c, e, h0, g.n _ _ h hf, hc, g.h.at h⟩⟩
section
variable {C : Ctab} {X : Cx}
theorem setX_ob {w : World} {P : Program} {H : Hp} {h : Heap} {a : Addr} {S : Str → Bool} {n : Nat} (R : SetX w h a S n) : ObjOk P w H h a (SetXO w a S n) := by
  have ⟨o, _, _, _, ho, _⟩ := R
  exact ⟨R, ⟨o, ho⟩, fun h1 h2 p k => SetX.at p k⟩
/-- set(a text) -/
theorem cr_setX (hc : X.calm = true) : CallR X (.type "set") (fun xs H Q => ∃ (x : Str), xs = [V.str x] ∧ x.cps.size + 1 < scanBound ∧
    ∀ (p : Addr) (c : Nat), H p = none → c ≤ (signsOf x).length → Q (.ref p) (upd H p (SetXO X.w p (fun j => decide (j ∈ signsOf x)) c))) := by
  intro pins s σ H xs us Q I r q
  obtain ⟨x, rfl, hb, q⟩ := q
  obtain ⟨u, eu, rx⟩ := vals1 r
  subst eu
  obtain ⟨t, rfl⟩ := rx
  exact set_text (I.ok.hd hc) hb fun h' t' ⟨c, hc', hS⟩ k => ⟨.ref s.heap.objs.size, _, I.laid (t' := t') k (Nat.le_refl _) (setX_ob hS), rfl, q _ c (I.hok.fresh (Nat.le_refl _)) hc'⟩
/-- sorted(a set of texts) -/
theorem cr_sortX (hc : X.calm = true) : CallR X (.builtin "sorted") (fun vs H Q => ∃ (a : Addr) (S : Str → Bool) (n : Nat), vs = [V.ref a] ∧ H a = some (SetXO X.w a S n) ∧ n < 64 ∧
    ∀ (ks : List Str) (p : Addr), sortedS ks = true → ks.Nodup → (∀ k, k ∈ ks ↔ S k = true) → H p = none → Q (.ref p) (upd H p (.lst (ks.map V.str)))) := by
  intro pins s σ H vs us Q I r h
  obtain ⟨a, S, n, rfl, ha, h64, q⟩ := h
  have R : SetX X.w s.heap a S n := (I.hok a _ ha).1
  rw [Vals.ref1 r]
  refine sorted_setX R (I.ok.hd hc) h64 fun s' p out c ks k g o hp hg hi hs hd hm hl => ?_
  have len : (ks.map V.str).length ≤ sizeLine := by
    rw [List.length_map, hl, sizeLine_eq]
    omega
  have hn : H p = none := I.hok.fresh hp
  have J : Inv X pins σ (upd H p (.lst (ks.map V.str))) { s with heap := s'.heap, gens := s'.gens, drawn := s'.drawn, toks := s'.toks } :=
    I.call (ch := []) (Un.laid k hp hn) (I.hok.laid k hp ⟨len, out.toList, c, vals_of_strs hi, hg⟩) (by rw [g]; exact I.bare) (fun _ z => nomatch z)
  have e : s' = { s with heap := s'.heap, gens := s'.gens, drawn := s'.drawn, toks := s'.toks } := by
    cases s'
    cases s
    cases o
    rfl
  rw [e]
  exact ⟨.ref p, _, J, rfl, q ks p hs hd hm hn⟩
def D.setX : D → Option (List Str)
  | .str x => if x.cps.size < 4000 then some (signsOf x) else none
  | _ => none
theorem cd_setX (hc : X.calm = true) : CallD X (.type "set") (rD X.K C) (rSetX X.w) D.setX := by
  refine ⟨_, cr_setX hc, fun F H H0 x dx Q e r1 p => ?_⟩
  cases dx <;> try (exact (show False from p).elim)
  rename_i y
  obtain rfl := str_of r1
  have p2 : PostV (rSetX X.w) F H Q (if y.cps.size < 4000 then some (signsOf y) else none) := p
  split at p2
  case isFalse => exact (show False from p2).elim
  rename_i hl
  exact ⟨y, rfl, Nat.lt_trans (Nat.succ_lt_succ hl) (by decide), fun l c hl hc => p2 _ _ _ (Gr.own e hl) ⟨l, c, rfl, hl, e.back hl, hc, upd_same⟩⟩
def sortSetX (ks : List Str) : Option (List D) := if ks.length < 64 then some ((sortT false ks).map D.str) else none
theorem cd_sortX (hc : X.calm = true) : CallD X (.builtin "sorted") (rSetX X.w) (rN X.K C) sortSetX := by
  refine ⟨_, cr_sortX hc, fun F H H0 x dx Q e r1 p => ?_⟩
  obtain ⟨a, c, rfl, h0, hf, hc', hh⟩ := r1
  unfold sortSetX at p
  split at p
  case isFalse => exact (show False from p).elim
  rename_i hl
  refine ⟨a, _, c, rfl, hh, by omega, fun ks l up nd mem hl => p _ _ _ (Gr.own e hl) ⟨l, _, rfl, hl, e.back hl, upd_same, ?_⟩⟩
  rw [ups_unique (ups_of up) (sortT_up (b := false) dx) ((List.perm_ext_iff_of_nodup nd (sortT_nodup dx)).mpr fun k => by rw [mem, mem_sortT, decide_eq_true_eq])]
  exact RpA.of_strs _
/-- sorted(a list of texts), fewer than 64 -/
def sortS (l : List D) : Option (List D) := if l.length < 64 then (strsD l).map fun ks => (sortT true ks).map D.str else none
theorem cd_sortS : CallD X (.builtin "sorted") (rL X.K C) (rN X.K C) sortS := by
  refine ⟨_, cr_sortedS, fun F H H0 x dx Q e r1 p => ?_⟩
  obtain ⟨a, vs, rfl, h1, a1⟩ := r1
  unfold sortS at p
  split at p
  case isFalse => exact (show False from p).elim
  rename_i hl
  cases q : strsD dx with
  | none =>
    rw [q] at p
    exact (show False from p).elim
  | some ns =>
    rw [q] at p
    have e1 := strs_of q
    subst e1
    have e2 := a1.strs
    subst e2
    rw [List.length_map] at hl
    refine ⟨a, ns, rfl, h1, hl, fun ks l hp hs hl => p _ _ _ (Gr.own e hl) ⟨l, _, rfl, hl, e.back hl, upd_same, ?_⟩⟩
    rw [ups_unique (ups_of hs) (sortT_up (b := true) ns) (hp.trans (sortT_perm ns).symm)]
    exact RpA.of_strs _
end
end DL
end
section
set_option Elab.async false
set_option linter.all false
set_option maxRecDepth 100000
set_option maxHeartbeats 4000000
set_option autoImplicit false
namespace DL
open PySem PySem.Spec PyProof.Rows L2 SrtO

/-! ## sorted(a tuple of ints) -/
section
variable {prog : Program} {w : World} {A : Around} {E : Value → Shared → Prop} {s : Shared}
theorem gather_tup {l : Addr} {vs : List Value} {Q : List Value → Shared → Prop} (hl : s.heap.IsTuple l vs.toArray) (hz : vs.length ≤ sizeLine)
    (h : Q vs { s with heap := (s.heap.push (seqObj "list" #[] 0)).update s.heap.objs.size (Obj.mapSeq (· ++ vs.toArray)) }) : wpAny (model prog w) A (collect (.ref l)) Q E s := by
  obtain ⟨o, ho, hc, n, hd⟩ := id hl
  unfold collect
  refine wpAny_bind (wpAny_runValue (codeAny_builtin entry_proto_collect' ?_))
  show wpAny _ _ (do again (.builtin "list.__iadd__" ⟨[← newList [], .ref l], []⟩)) _ _ s
  refine wpAny_bind (wpAny_newList (wpAny_pure ⟨Code.quiet_builtin _ (by decide +kernel), codeAny_builtin entry_list_iadd' ?_⟩))
  have L0 : (s.heap.push (seqObj "list" #[] 0)).get? s.heap.objs.size = some (seqObj "list" #[] 0) := Heap.get?_push_size _ rfl
  have L1 : (s.heap.push (seqObj "list" #[] 0)).get? l = some o := Heap.get?_push_of_some _ ho
  show wpAny _ _ (Builtin.List.listExtendWith (.ref s.heap.objs.size) (.ref l) (.ref s.heap.objs.size)) _ _ { s with heap := s.heap.push (seqObj "list" #[] 0) }
  unfold Builtin.List.listExtendWith
  refine wpAny_bind (wpAny_typeOf (T := "tuple") ⟨o, L1, hc⟩ ?_)
  have yes : (Value.type "tuple" == Value.type "tuple") = true := by rfl
  rw [if_pos (by rw [yes]; simp)]
  refine wpAny_bind (listItems_at L1 hd ?_)
  refine wpAny_bind (listItems_at (xs := #[]) (n := 0) L0 rfl ?_)
  rw [if_neg (by simp)]
  refine wpAny_bind (listUpdate_at (xs := #[]) (n := 0) L0 rfl ?_ (Nat.zero_le _) ?_)
  · refine wpAny_pure ?_
    show wpAny (model prog w) A (load s.heap.objs.size >>= fun o => match o.data with
      | .seq xs _ => pure xs.toList
      | _ => unsupported "internal:collect") Q E { s with heap := (s.heap.push (seqObj "list" #[] 0)).update s.heap.objs.size (Obj.mapSeq (· ++ vs.toArray)) }
    refine wpAny_bind (wpAny_load (get?_update_seq L0 _) ?_)
    show wpAny _ _ (pure ((#[] : Array Value) ++ vs.toArray).toList) Q E _
    rw [show ((#[] : Array Value) ++ vs.toArray).toList = vs by simp]
    exact wpAny_pure h
  · show (#[] ++ vs.toArray).size ≤ sizeLine + 1
    simp only [Array.size_append, List.size_toArray, List.length_nil]
    omega
theorem sorted_tup {l : Addr} {vs : List Value} {lt0 : Value → Value → Bool} {Q : Value → Shared → Prop} (O : Swo lt0) (hl : s.heap.IsTuple l vs.toArray) (hz : vs.length ≤ sizeLine)
    (hS : 2 ≤ vs.length → ∀ (h1 : Heap) (a : Addr), h1.get? a = some (seqObj "list" vs.toArray 0) → (∀ b o, s.heap.get? b = some o → b ≠ a ∧ h1.get? b = some o) → SortableO prog w A.in1.in1 { s with heap := h1 } a vs lt0)
    (h : ∀ out : List Value, Srtd lt0 out → Stb lt0 out vs → Q (.ref (s.heap.objs.size + 1)) { s with heap := sortedAll s.heap vs out.toArray }) :
    wpAny (model prog w) A (call (.builtin "sorted") [.ref l]) Q E s := by
  refine Calls.call_function_entry kind_sorted plain_sorted entry_sorted (args_sorted1 _) ?_
  unfold Builtin.«sorted»
  refine wpAny_bind (m := checkCount "sorted" 1 1 _) (wpAny_pure ?_)
  refine wpAny_bind (gather_tup hl hz ?_)
  refine wpAny_bind (wpAny_newList ?_ hz)
  generalize hg : (s.heap.push (seqObj "list" #[] 0)).update s.heap.objs.size (Obj.mapSeq (· ++ vs.toArray)) = g0
  have zz : g0.objs.size = s.heap.objs.size + 1 := by
    rw [← hg, Heap.size_update, size_push']
  have at1 : (g0.push (seqObj "list" vs.toArray 0)).get? (s.heap.objs.size + 1) = some (seqObj "list" vs.toArray 0) := by
    rw [← zz]
    exact Heap.get?_push_size _ rfl
  have old : ∀ b o, s.heap.get? b = some o → b ≠ s.heap.objs.size + 1 ∧ (g0.push (seqObj "list" vs.toArray 0)).get? b = some o := fun b o q => by
    have lt0 : b < s.heap.objs.size := Heap.lt_size q
    refine ⟨Nat.ne_of_lt (Nat.lt_succ_of_lt lt0), Heap.get?_push_of_some _ ?_⟩
    rw [← hg, Heap.get?_update_ne _ _ _ _ (Nat.ne_of_lt lt0)]
    exact Heap.get?_push_of_some _ q
  show wpAny _ _ _ _ _ { s with heap := g0.push (seqObj "list" vs.toArray 0) }
  rw [zz]
  refine wpAny_bind (wpAny_holding (wpAny_call_entry slot_list_sort ⟨_, at1, rfl⟩ entry_list_sort (list_sort_ord O at1 hz (fun h2 => hS h2 _ _ at1 old) fun out hs hb => ⟨_, rfl, ?_⟩) (args_list_sort _)))
  have fin := h out hs hb
  unfold sortedAll at fin
  rw [hg] at fin
  exact wpAny_pure ⟨_, rfl, fin⟩
end
section
variable [TN] {C : Ctab} {X : Cx}
theorem cr_sortedT : CallR X (.builtin "sorted") (fun vs H Q => ∃ (a : Addr) (ns : List Int), vs = [V.ref a] ∧ SqT X.K H a (ns.map V.int) ∧
    ∀ (ns' : List Int) (p : Addr), ns'.Perm ns → ns'.Pairwise (· ≤ ·) → H p = none → Q (.ref p) (upd H p (.lst (ns'.map V.int)))) := by
  intro pins s σ H vs us Q I r h
  obtain ⟨a, ns, rfl, hs, q⟩ := h
  obtain ⟨its, rv, hl, hz⟩ := I.tuple hs
  rw [Vals.ref1 r]
  have hi := rv.ints
  refine sorted_tup swo_int hl (by rw [← rv.length]; exact hz) (fun h2 h1 a' _ _ => ints_sortable hi h2) fun out h1 h2 => ?_
  obtain ⟨k1, k2, k3⟩ := ints_out hi h1 h2
  obtain ⟨ep, at2⟩ := sortedAll_at s.heap its out.toArray
  have len : ((out.map iv).map V.int).length ≤ sizeLine := by
    rw [List.length_map, k2.length_eq]
    rw [List.length_map] at hz
    exact hz
  exact ⟨.ref _, upd H (s.heap.objs.size + 1) (.lst ((out.map iv).map V.int)), I.laid (t' := s.toks) (fun _ _ => sortedAll_old) (Nat.le_succ _) ⟨len, out, ep, vals_of_ints k1, at2⟩, rfl, q _ _ k2 k3 (I.hok.fresh (Nat.le_succ _))⟩
def D.sortI : D → Option (List D)
  | .tup l => DL.sortI l
  | _ => none
theorem cd_sortT : CallD X (.builtin "sorted") (rD X.K C) (rN X.K C) D.sortI := by
  refine ⟨_, cr_sortedT, fun F H H0 x dx Q e r1 p => ?_⟩
  cases dx <;> try (exact (show False from p).elim)
  rename_i dl
  have p2 : PostV (rN X.K C) F H Q (DL.sortI dl) := p
  clear p
  cases r1 with
  | tup h1 a1 =>
  unfold DL.sortI at p2
  cases q : intsD dl with
  | none =>
    rw [q] at p2
    exact (show False from p2).elim
  | some ns =>
    rw [q] at p2
    have e1 := ints_of q
    subst e1
    have e2 := a1.ints
    subst e2
    refine ⟨_, ns, rfl, ex_t e h1, fun ns' l hp hs hl => p2 _ _ _ (Gr.own e hl) ⟨l, _, rfl, hl, e.back hl, upd_same, ?_⟩⟩
    rw [srt_unique hp hs]
    exact RpA.of_ints _
end
end DL
end
section
set_option Elab.async false
set_option linter.all false
set_option maxRecDepth 100000
set_option maxHeartbeats 4000000
set_option autoImplicit false
namespace DL
open PySem PySem.Spec PyProof.Rows L2
variable [TN]

/-! ## join -/
def joinD (x : D) (ys : List D) : Option D := match x with
  | .str a => strsD ys >>= fun ks => if (ks.map (·.length)).sum + ks.length * a.length ≤ 16777216 then some (.str (Txt.join a ks)) else none
  | _ => none
section
variable {T S : Type} {g : G} {Γ : List Sl} {o e a b : Expr} {pos apos p0 p1 p2 p3 pos1 : Pos} {k0 : Nat}
theorem ce_join {x0 : Str} {r : R (List D)} (h : CL g e Γ r) (hs : starEach [e] g.X.env = [(false, eval e g.X.env)] := by rfl)
    (hbase : attributeBase (.Constant (.str x0) k0 p0) "join" g.X.env (eval (.Constant (.str x0) k0 p0) g.X.env) = eval (.Constant (.str x0) k0 p0) g.X.env := by rfl) (hline : (apos.endLine == pos.line) = true := by rfl) :
    CE g (.Call (.Attribute (.Constant (.str x0) k0 p0) "join" apos) [e] [] pos) Γ (r >>= fun ys => .of (joinD (.str x0) ys)) := .mk fun F H σ Q E p => by
  refine wE_of (pe_join pe_str (pe_w _ e) hs hbase hline) ?_
  refine ⟨⟨_, rfl⟩, h F H σ _ E (p.seq fun ys v F1 H1 g1 r1 p1 => ?_)⟩
  obtain ⟨q, vs, rfl, h1, a1⟩ := r1
  have p2 : Post g (rD g.X.K g.C) F1 H1 σ Q (.of (strsD ys >>= fun ks => if (ks.map (·.length)).sum + ks.length * x0.length ≤ 16777216 then some (.str (Txt.join x0 ks)) else none)) := p1
  clear p1
  cases e1 : strsD ys with
  | none =>
    rw [e1] at p2
    exact (show False from p2).elim
  | some ks =>
    rw [e1] at p2
    have p3 : Post g (rD g.X.K g.C) F1 H1 σ Q (.of (if (ks.map (·.length)).sum + ks.length * x0.length ≤ 16777216 then some (.str (Txt.join x0 ks)) else none)) := p2
    clear p2
    split at p3
    case isFalse => exact (show False from p3).elim
    rename_i hz
    have e2 := strs_of e1
    subst e2
    have e3 := a1.strs
    subst e3
    exact ⟨x0, q, ks, rfl, rfl, .inl h1, hz, p3.here g1.fh (.str _)⟩
/-! ## tuple(range(..)), list(range(..)) -/
theorem rg_Rp {K : PySem.W.Frag} {C : Ctab} {F : Hp} (i j : Int) : RpA K C F (rgV i j) ((List.range (j - i).toNat).map fun k => D.int (i + (k : Nat))) := by
  unfold rgV
  generalize List.range (j - i).toNat = l
  induction l with
  | nil => exact .nil
  | cons x l ih => exact .cons (.int _) ih
instance (i j : Int) : Decidable (RgOk i j) := by
  unfold RgOk
  infer_instance
def rangeI (i j : Int) : Option (List D) := if i.natAbs ≤ 8000000 ∧ j.natAbs ≤ 8000000 then some ((List.range (j - i).toNat).map fun k => D.int (i + (k : Nat))) else none
def rangeT1 : D → Option (List D)
  | .int j => rangeI 0 j
  | _ => none
def rangeT2 : D → D → Option (List D)
  | .int i, .int j => rangeI i j
  | _, _ => none
theorem ce_tupRg1 {r : R D} (h : CE g a Γ r) (hc : g.X.calm = true) (hm : g.X.mg "range" = none) (hm2 : g.X.mg "tuple" = none) (hg : Gl g.X "range" := by rfl) (hg2 : Gl g.X "tuple" := by rfl)
    (h1 : starEach [a] g.X.env = [(false, eval a g.X.env)] := by rfl) (h2 : starEach [.Call (.Name "range" p1) [a] [] pos1] g.X.env = [(false, eval (.Call (.Name "range" p1) [a] [] pos1) g.X.env)] := by rfl) :
    CE g (.Call (.Name "tuple" p2) [.Call (.Name "range" p1) [a] [] pos1] [] pos) Γ (r >>= fun x => R.of (rangeT1 x) >>= fun l => .ok (.tup l)) := .mk fun F H σ Q E p => by
  refine wE_of (pe_tupRg hc hg2 hm2 (prg_1 hg hm (pe_w _ a) h1) h2) ?_
  refine h F H σ _ E (p.seq fun x v F1 H1 g1 r1 q1 => ?_)
  cases x <;> try (exact (show False from q1).elim)
  rename_i j
  obtain rfl := int_of r1
  have q2 : Post g (rD g.X.K g.C) F1 H1 σ Q (R.of (rangeI 0 j) >>= fun l => .ok (.tup l)) := q1
  unfold rangeI at q2
  split at q2
  case isFalse => exact (show False from q2).elim
  rename_i ok
  have ok : RgOk 0 j := by unfold RgOk; omega
  refine ⟨j, rfl, ok, fun q hq => ?_⟩
  have gr : Gr F1 H1 (upd F1 q (.tup (rgV 0 j))) (upd H1 q (.tup (rgV 0 j))) := Gr.alloc g1.fh hq
  exact q2 _ _ _ gr (.tup (SqT.of upd_same) (rg_Rp 0 j))
theorem ce_tupRg2 {r r2 : R D} (h : CE g a Γ r) (h' : CE g b Γ r2) (hc : g.X.calm = true) (hm : g.X.mg "range" = none) (hm2 : g.X.mg "tuple" = none) (hg : Gl g.X "range" := by rfl) (hg2 : Gl g.X "tuple" := by rfl)
    (h1 : starEach [a, b] g.X.env = [(false, eval a g.X.env), (false, eval b g.X.env)] := by rfl) (h3 : starEach [b] g.X.env = [(false, eval b g.X.env)] := by rfl)
    (h2 : starEach [.Call (.Name "range" p1) [a, b] [] pos1] g.X.env = [(false, eval (.Call (.Name "range" p1) [a, b] [] pos1) g.X.env)] := by rfl) :
    CE g (.Call (.Name "tuple" p2) [.Call (.Name "range" p1) [a, b] [] pos1] [] pos) Γ (r >>= fun x => r2 >>= fun y => R.of (rangeT2 x y) >>= fun l => .ok (.tup l)) := .mk fun F H σ Q E p => by
  refine wE_of (pe_tupRg hc hg2 hm2 (prg_2 hg hm (pe_w _ a) (pe_w _ b) (by rw [h1, h3]) h3 (by rw [h3]; rfl)) h2) ?_
  refine h F H σ _ E (p.seq fun x v F1 H1 g1 r1 p1 => h' F1 H1 σ _ (E.grow g1) (p1.seq fun y w F2 H2 g2 r2' q1 => ?_))
  cases x <;> cases y <;> try (exact (show False from q1).elim)
  rename_i i j
  obtain rfl := int_of r1
  obtain rfl := int_of r2'
  have q2 : Post g (rD g.X.K g.C) F2 H2 σ Q (R.of (rangeI i j) >>= fun l => .ok (.tup l)) := q1
  unfold rangeI at q2
  split at q2
  case isFalse => exact (show False from q2).elim
  rename_i ok
  have ok : RgOk i j := by unfold RgOk; omega
  refine ⟨i, j, rfl, rfl, ok, fun q hq => ?_⟩
  have gr : Gr F2 H2 (upd F2 q (.tup (rgV i j))) (upd H2 q (.tup (rgV i j))) := Gr.alloc g2.fh hq
  exact q2 _ _ _ gr (.tup (SqT.of upd_same) (rg_Rp i j))
theorem cn_listRg1 {r : R D} (h : CE g a Γ r) (hc : g.X.calm = true) (hm : g.X.mg "range" = none) (hm2 : g.X.mg "list" = none) (hg : Gl g.X "range" := by rfl) (hg2 : Gl g.X "list" := by rfl)
    (h1 : starEach [a] g.X.env = [(false, eval a g.X.env)] := by rfl) (h2 : starEach [.Call (.Name "range" p1) [a] [] pos1] g.X.env = [(false, eval (.Call (.Name "range" p1) [a] [] pos1) g.X.env)] := by rfl) :
    CN g (.Call (.Name "list" p2) [.Call (.Name "range" p1) [a] [] pos1] [] pos) Γ (r >>= fun x => R.of (rangeT1 x)) := .mk fun F H σ Q E p => by
  refine wE_of (pe_listRg hc hg2 hm2 (prg_1 hg hm (pe_w _ a) h1) h2) ?_
  refine h F H σ _ E (p.seq fun x v F1 H1 g1 r1 q1 => ?_)
  cases x <;> try (exact (show False from q1).elim)
  rename_i j
  obtain rfl := int_of r1
  have q2 := q1
  clear q1
  unfold rangeT1 rangeI at q2
  dsimp only at q2
  split at q2
  case isFalse => exact (show False from q2).elim
  rename_i ok
  have ok : RgOk 0 j := by unfold RgOk; omega
  exact ⟨j, rfl, ok, fun q hq => q2 _ _ _ (Gr.own g1.fh hq) ⟨q, _, rfl, hq, g1.fh.back hq, upd_same, rg_Rp 0 j⟩⟩

/-! ## xs.index(e): ints -/
def indexI (xs : List D) (y : D) : Option D := match y with
  | .int k => intsD xs >>= fun ns => (ns.findIdx? fun n => decide (n = k)).map fun (j : Nat) => D.int j
  | _ => none
theorem flat_ints (ns : List Int) : (ns.map V.int).all flatV = true := by
  rw [List.all_map]
  exact List.all_eq_true.mpr fun _ _ => rfl
theorem ce_index (i : Nat) {n : Str} {xs : List D} {r : R D} (h : CE g e Γ r) (hi : Γ[i]? = some (.l xs) := by rfl) (hN : g.X.N[i]? = some n := by rfl)
    (hv : Vis g.X.env.scope n := by first | exact Or.inl rfl | exact Or.inr (Or.inl rfl) | exact Or.inr (Or.inr rfl)) (hd : (n == ("__debug__" : Str)) = false := by decide) (hcd : (n == ("__classdict__" : Str)) = false := by decide)
    (hbase : attributeBase (.Name n p1) "index" g.X.env (eval (.Name n p1) g.X.env) = eval (.Name n p1) g.X.env := by rfl)
    (hfew : ((backTo p3 (starEach [e] g.X.env)).all (fun x => !x.1) && (backToKw p3 (keywordEach [] g.X.env)).all (fun x => x.1.isSome) && decide (([e] : List Expr).length + ([] : List Keyword).length + (if ([] : List Keyword).isEmpty then 0 else 1) < 30)) = true := by rfl)
    (hline : (p2.endLine == p3.line) = true := by rfl) (hst : starEach [e] g.X.env = [(false, eval e g.X.env)] := by rfl) :
    CE g (.Call (.Attribute (.Name n p1) "index" p2) [e] [] p3) Γ (r >>= fun y => .of (indexI xs y)) := .mk fun F H σ Q E p => by
  refine wE_of (pe_bm PySem.F.plainAttrs_list PySem.F.slot_list_index PySem.F.type_list_index mt_index (pe_var hN hv hd hcd) (pa_cons (pe_w _ e) pa_nil hst) hbase hfew hline (by rw [hst]; rfl) (by rfl)) ?_
  obtain ⟨o, h1, a, vs, rfl, hb, hf, hh, ra⟩ := E.sl i _ hi
  refine ⟨_, h1, .inl ⟨rfl, _, SqL.of hh⟩, ?_⟩
  refine h F H σ _ E (p.seq fun y v F1 H1 g1 r1 q1 => ?_)
  cases y <;> try (exact (show False from q1).elim)
  rename_i k
  obtain rfl := int_of r1
  have q2 : Post g (rD g.X.K g.C) F1 H1 σ Q (.of (intsD xs >>= fun ns => (ns.findIdx? fun n => decide (n = k)).map fun (j : Nat) => D.int j)) := q1
  clear q1
  cases e1 : intsD xs with
  | none =>
    rw [e1] at q2
    exact (show False from q2).elim
  | some ns =>
    rw [e1] at q2
    have e2 := ints_of e1
    subst e2
    have e3 := ra.ints
    subst e3
    cases e4 : ns.findIdx? fun n => decide (n = k) with
    | none =>
      have q3 : Post g (rD g.X.K g.C) F1 H1 σ Q (.of ((ns.findIdx? fun n => decide (n = k)).map fun (j : Nat) => D.int j)) := q2
      rw [e4] at q3
      exact (show False from q3).elim
    | some j =>
      have q3 : Post g (rD g.X.K g.C) F1 H1 σ Q (.of ((ns.findIdx? fun n => decide (n = k)).map fun (j : Nat) => D.int j)) := q2
      rw [e4] at q3
      obtain ⟨hj, hk, hlt⟩ := List.findIdx?_eq_some_iff_getElem.mp e4
      have hk' : ns[j] = k := of_decide_eq_true hk
      refine ⟨a, _, .int k, j, .int k, rfl, rfl, SqL.of (g1.h.at hh), rfl, flat_ints ns, ?_, ?_, fun m z hm hz => ?_, q3.here g1.fh (.int _)⟩
      · rw [List.getElem?_map, List.getElem?_eq_getElem hj, hk'] <;> rfl
      · show decide (k = k) = true
        exact decide_eq_true rfl
      · rw [List.getElem?_map, List.getElem?_eq_getElem (Nat.lt_trans hm hj)] at hz
        cases hz
        show decide (ns[m]'(Nat.lt_trans hm hj) = k) = false
        have := hlt m hm
        simpa using this
end
end DL
end
section
set_option Elab.async false
set_option linter.all false
set_option maxRecDepth 100000
set_option maxHeartbeats 4000000
set_option autoImplicit false
namespace DL
open PySem PySem.Spec PyProof.Rows L2

/-! ## t[::-1] of a tuple -/
section
variable {prog : Program} {w : World} {A : Around} {E : Value → Shared → Prop} {s : Shared}
theorem down_places (n : Nat) : Builtin.Slice.sliceAdjust none none (-1) (n : Int) = ((n : Int) - 1, -1) := by
  unfold Builtin.Slice.sliceAdjust
  simp
theorem down_count (n : Nat) : Builtin.Slice.slicePlaces ((n : Int) - 1) (-1) (-1) = n := by
  unfold Builtin.Slice.slicePlaces
  simp
  try omega
theorem fmap_same {α β : Type} {f g : α → Option β} : ∀ {l : List α}, (∀ x ∈ l, f x = g x) → l.filterMap f = l.filterMap g
  | [], _ => rfl
  | x :: l, h => by
    rw [List.filterMap_cons, List.filterMap_cons, h x List.mem_cons_self, fmap_same fun y hy => h y (List.mem_cons_of_mem _ hy)]
open HT in
theorem applied_down {sl : Addr} {t : Tok} {n : Nat} {Q : Int × Int × Nat → Shared → Prop} (hs : s.heap.IsSliceOf sl .none .none (.int (-1) t))
    (h : Q ((n : Int) - 1, -1, n) s) : wpAny (model prog w) A (Builtin.Slice.sliceApplied (.ref sl) (pure (n : Int))) Q E s := by
  obtain ⟨o, ho, hc, hd⟩ := id hs
  unfold Builtin.Slice.sliceApplied Builtin.Slice.sliceFields
  refine wpAny_bind (wpAny_bind (wpAny_field ho hd (x := .none) rfl (wpAny_bind (wpAny_field ho hd (x := .none) rfl (wpAny_bind (wpAny_field ho hd (x := .int (-1) t) rfl (wpAny_pure ?_)))))))
  refine wpAny_bind (slicePart_int ?_)
  show wpAny _ _ (if ((-1 : Int) == 0) = true then _ else _) _ _ s
  rw [if_neg (by decide)]
  refine wpAny_bind (slicePart_none (wpAny_bind (slicePart_none (wpAny_bind (wpAny_pure ?_)))))
  show wpAny _ _ (match Builtin.Slice.sliceAdjust none none (-1) (n : Int) with | (lo, hi) => pure (lo, (-1 : Int), Builtin.Slice.slicePlaces lo hi (-1))) _ _ s
  rw [down_places]
  show wpAny _ _ (pure ((n : Int) - 1, (-1 : Int), Builtin.Slice.slicePlaces ((n : Int) - 1) (-1) (-1))) _ _ s
  rw [down_count]
  exact wpAny_pure h
open HT in
theorem item_down {t0 sl : Addr} {items : Array Value} {t : Tok} {Q : Value → Shared → Prop} (ht : IsTup s.heap t0 items) (hs : s.heap.IsSliceOf sl .none .none (.int (-1) t)) (hz : items.size ≤ sizeLine)
    (h : Q (.ref s.heap.objs.size) { s with heap := s.heap.push { cls := .type "tuple", data := .seq items.toList.reverse.toArray } }) : wpAny (model prog w) A (getItem (.ref t0) (.ref sl)) Q E s := by
  obtain ⟨o, ho, hc, hd⟩ := id hs
  have is0 : s.TypeIs (.ref sl) "slice" := ⟨o, ho, hc⟩
  have small : sizeOk (.seq items.toList.reverse.toArray) := by
    show items.toList.reverse.toArray.size ≤ sizeLine
    rw [List.size_toArray, List.length_reverse, Array.length_toList]
    exact hz
  unfold getItem
  try with_reducible refine wpAny_holding ?_
  first | refine wpAny_bind (wpAny_pure ?_) | skip
  refine wpAny_bind (wpAny_sequenceKey ht.typeIs (by decide) ?_)
  refine wpAny_bind (wpAny_callSpecial?_slot (name := Str.ofString "__getitem__") ht.typeIs PyProof.Rows.slot_tuple_getitem
    (wpAny_call_entry PyProof.Rows.slot_tuple_getitem ht.typeIs entry_tuple_getitem ?_ (args_tuple_getitem _ _)))
  show wpAny _ _ (Builtin.Tuple.tupleItemsOf (.ref t0) >>= _) _ _ s
  refine wpAny_bind (tupleItemsOf_ ht ?_)
  refine wpAny_bind (wpAny_typeOf is0 ?_)
  rw [if_pos (by decide)]
  refine wpAny_bind (applied_down hs ?_)
  show wpAny _ _ (if (((items.size : Int) - 1) == 0 && (-1 : Int) == 1 && items.size == items.size) = true then _ else _) _ _ s
  rw [if_neg (by simp)]
  have pick : ((List.range items.size).filterMap fun (k : Nat) => items[(((items.size : Int) - 1) + (k : Int) * (-1)).toNat]?).toArray = items.toList.reverse.toArray := by
    congr 1
    have all0 := PySem.W.krv_all items.toList.reverse.toArray
    rw [List.size_toArray, List.length_reverse, Array.length_toList] at all0
    refine (fmap_same fun k hk => ?_).trans (all0.trans (by simp))
    have lt := List.mem_range.mp hk
    show items[(((items.size : Int) - 1) + (k : Int) * (-1)).toNat]? = items.toList.reverse.toArray[k]?
    rw [show (((items.size : Int) - 1) + (k : Int) * (-1)).toNat = items.size - 1 - k by omega]
    have e1 : items.toList.reverse.toArray[k]? = items.toList.reverse[k]? := by simp
    rw [e1, List.getElem?_reverse (by rw [Array.length_toList]; exact lt), Array.length_toList, Array.getElem?_toList]
  rw [pick]
  first
    | exact wpAny_bind (m := Builtin.Tuple.tupleExact _) (wpAny_newObj_type (wpAny_pure ⟨_, rfl, wpAny_pure h⟩) small)
    | exact wpAny_bind (m := Builtin.Tuple.tupleExact _) (wpAny_newObj_type (wpAny_bind (wpAny_pure (wpAny_pure ⟨_, rfl, wpAny_pure h⟩))) small)
    | exact wpAny_bind (wpAny_bind (m := Builtin.Tuple.tupleExact _) (wpAny_newObj_type (wpAny_pure (wpAny_pure ⟨_, rfl, wpAny_pure h⟩)) small))
    | exact wpAny_bind (wpAny_bind (m := Builtin.Tuple.tupleExact _) (wpAny_newObj_type (wpAny_pure ⟨_, rfl, wpAny_pure h⟩) small))
end
section
variable {X : Cx}
def tDown (K : PySem.W.Frag) (te : TE) : TE := fun σ H Q => te σ H fun x H1 => ∃ a xs, x = .ref a ∧ SqT K H1 a xs ∧ ∀ p, H1 p = none → Q (.ref p) (upd H1 p (.tup xs.reverse))
theorem pe_down {e : Expr} {te : TE} {k : Nat} {p1 p2 p3 pos : Pos} (he : PE X e te) : PE X (.Subscript e (.Slice none none (some (.UnaryOp .USub (.Constant (.int 1) k p1) p2)) p3) pos) (tDown X.K te) := by
  refine ⟨fun pins s σ H Q I h => Subscript_ (thn (he.run pins s σ H _ I h) fun v t1 ⟨x, H1, I1, r1, q1⟩ => ?_)⟩
  obtain ⟨a, xs, rfl, hx, q⟩ := q1
  cases r1
  have step0 : PO X (some (.UnaryOp .USub (.Constant (.int 1) k p1) p2)) (tPart (tUn (rU fun i => .int (-i)) (tC (.int 1)))) := po_some (pe_un un_neg pe_int)
  have n1 := po_none.run pins t1 σ H1 (fun o H2 => o = none ∧ H2 = H1) I1 ⟨rfl, rfl⟩
  refine wpAny_Slice (thn n1 fun vl t2 ⟨l, H2, I2, pl, hl, e2⟩ => ?_)
  subst hl e2
  have n2 := po_none.run pins t2 σ H2 (fun o H3 => o = none ∧ H3 = H2) I2 ⟨rfl, rfl⟩
  refine thn n2 fun vu t3 ⟨u, H3, I3, pu, hu, e3⟩ => ?_
  subst hu e3
  have n3 := step0.run pins t3 σ H3 (fun o H4 => o = some (-1) ∧ H4 = H3) I3 ⟨1, rfl, -1, rfl, rfl, rfl⟩
  refine thn n3 fun vs t4 ⟨o, H4, I4, ps, ho, e4⟩ => ?_
  subst ho e4
  have J : Inv X pins σ H4 { t4 with heap := t4.heap.push { cls := .type "slice", data := .fields #[vl, vu, vs] } } := I4.kept (t' := t4.toks) fun b ob q => Heap.get?_push_of_some _ q
  obtain ⟨its, r, ht, hz⟩ := J.tuple hx
  cases pl
  cases pu
  cases ps with
  | int i t =>
  show wpAny (model X.prog X.w) X.A (subscriptTail e (.Slice none none (some (.UnaryOp .USub (.Constant (.int 1) k p1) p2)) p3) (.ref a) (.ref t4.heap.objs.size)) (EP X pins σ Q) X.xe { t4 with heap := t4.heap.push { cls := .type "slice", data := .fields #[.none, .none, .int (-1) t] } }
  refine tail_any (ops := [.ref a, .ref t4.heap.objs.size]) ht.typeIs (PyProof.Rows.slot_tuple_getitem.lookup) ?_ (by with_unfolding_all rfl)
  refine item_down ht (Heap.IsSliceOf.new _ .none .none (.int (-1) t)) (by rw [List.size_toArray, ← r.length]; exact hz) ?_
  refine ⟨.ref _, _, J.laid (t' := t4.toks) (o := .tup xs.reverse) (fun b ob q => Heap.get?_push_of_some _ q) (Nat.le_refl _) ?_, rfl, q _ (J.hok.fresh (Nat.le_refl _))⟩
  exact ⟨by rw [List.length_reverse]; exact hz, _, r.reverse, IsTup.new _ _⟩
end
section
variable [TN] {T S : Type} {g : G} {Γ : List Sl} {e : Expr} {pos p1 p2 p3 : Pos} {k : Nat}
def D.down : D → Option D
  | .tup l => some (.tup l.reverse)
  | _ => none
theorem RpA.back {K : PySem.W.Frag} {C : Ctab} {F : Hp} : ∀ {vs : List V} {l : List D}, RpA K C F vs l → RpA K C F vs.reverse l.reverse
  | _, _, .nil => .nil
  | _, _, .cons r t => by
    rw [List.reverse_cons, List.reverse_cons]
    exact (RpA.back t).append (.one r)
theorem ce_down {r : R D} (h : CE g e Γ r) : CE g (.Subscript e (.Slice none none (some (.UnaryOp .USub (.Constant (.int 1) k p1) p2)) p3) pos) Γ (r >>= fun x => .of x.down) := .mk fun F H σ Q E p => by
  refine wE_of (pe_down (pe_w _ e)) ?_
  refine h F H σ _ E (p.seq fun x v F1 H1 g1 r1 q1 => ?_)
  cases x <;> try (exact (show False from q1).elim)
  rename_i l
  have q2 : Post g (rD g.X.K g.C) F1 H1 σ Q (.ok (.tup l.reverse)) := q1
  cases r1 with
  | @tup _ vs _ h1 a1 =>
  refine ⟨_, _, rfl, ex_t g1.fh h1, fun q hq => ?_⟩
  have gr : Gr F1 H1 (upd F1 q (.tup vs.reverse)) (upd H1 q (.tup vs.reverse)) := Gr.alloc g1.fh hq
  exact q2 _ _ _ gr (.tup (SqT.of upd_same) (RpA.mono gr.f a1.back))
end
end DL
end
section
set_option Elab.async false
set_option linter.all false
set_option maxRecDepth 100000
set_option maxHeartbeats 4000000
set_option autoImplicit false
namespace DL
open PySem PySem.Spec PyProof.Rows L2
variable [TN]
section
variable {T S : Type} {g : G} {ζ : Ret T} {Γ : List Sl} {γ : S → List Sl} {e a b c : Expr} {pos p1 p2 p3 : Pos} {st : Stmt} {sts : List Stmt} {Dn : Ends}
/-- x, y = (a new list, a new list) -/
theorem cb_parN (i j : Nat) {n m : Str} {kt k2 : Nat} {tp tp2 : Pos} {ra rb : R (List D)} {k : List D → List D → R (Fl T S)} (ha : CN g a Γ ra) (hb : CN g b Γ rb) (h2 : ∀ x y, CB g ζ γ sts ((Γ.set i (.l x)).set j (.l y)) (k x y)) (hc : g.X.calm = true)
    (nd : g.X.N.Nodup) (hw : swappedStores [.Tuple [.Name n p1, .Name m p2] kt tp] (.Tuple [a, b] k2 tp2) g.X.env = pure (some [n, m])) (hij : i ≠ j := by decide) (hN : g.X.N[i]? = some n := by rfl) (hx : g.X.env.scope.names.lookup n = some .local := by rfl) (hj : g.X.N[j]? = some m := by rfl) (hy : g.X.env.scope.names.lookup m = some .local := by rfl)
    (hs : swapsWithSole [.Tuple [.Name n p1, .Name m p2] kt tp] (.Tuple [a, b] k2 tp2) pos.line g.X.env = pure false := by rfl)
    (s1 : starEach [a, b] g.X.env = (false, eval a g.X.env) :: starEach [b] g.X.env := by rfl) (s2 : starEach [b] g.X.env = [(false, eval b g.X.env)] := by rfl) :
    CB g ζ γ (.Assign [.Tuple [.Name n p1, .Name m p2] kt tp] (.Tuple [a, b] k2 tp2) pos :: sts) Γ (ra >>= fun x => rb >>= fun y => k x y) := .mk fun F H σ Dn E p => by
  refine wB_of (pss_cons (ps_par hc nd hN hj hij hx hy (pa_cons (pe_w _ a) (pa_cons (pe_w _ b) pa_nil s2) s1) hw hs) (pss_w _ sts)) ?_
  refine ha F H σ _ E (p.expr E fun x v F1 H1 g1 r1 E1 p' => hb F1 H1 σ _ E1 (p'.expr E1 fun y w F2 H2 g2 r2 E2 p2 => ?_))
  have r1' := (rN g.X.K g.C).grow g2 r1
  obtain ⟨q, vs, rfl, h0, hf, hh, rv⟩ := r1'
  obtain ⟨q', ws, rfl, h0', hf', hh', rw'⟩ := r2
  have at1 : ∃ o, H1 q = some o := by
    obtain ⟨q9, vs9, e9, _, _, h9, _⟩ := r1
    cases e9
    exact ⟨_, h9⟩
  have ne0 : q ≠ q' := fun z => by
    obtain ⟨o, e9⟩ := at1
    rw [z, h0'] at e9
    cases e9
  have sa : SlOk g.X.K g.C g.B F2 H2 (some (.ref q)) (.l x) := ⟨q, vs, rfl, E2.eb.back' h0 E.eb, hf, hh, rv⟩
  have sb : SlOk g.X.K g.C g.B F2 H2 (some (.ref q')) (.l y) := ⟨q', ws, rfl, E2.eb.back' h0' E1.eb, hf', hh', rw'⟩
  refine ⟨_, _, rfl, h2 x y F2 H2 _ Dn (EnvOk.set_own (EnvOk.set_own E2 i sa fun j t _ e ow hs => ?_) j sb fun l t nl e ow hs => ?_) p2⟩
  · obtain ⟨⟨o, q1, _⟩, _⟩ := EnvOk.own_at E e ow hs
    rw [h0] at q1
    cases q1
  · by_cases e1 : i = l
    · subst e1
      have e2 : (σ.set i (some (.ref q)))[i]? = some (some (.ref q')) := hs
      rw [List.getElem?_set_self'] at e2
      cases e3 : σ[i]? with
      | none =>
        rw [e3] at e2
        cases e2
      | some z =>
        rw [e3] at e2
        cases e2
        exact ne0 rfl
    · rw [List.getElem?_set_ne e1] at e hs
      obtain ⟨⟨o, q1, _⟩, _⟩ := EnvOk.own_at E1 e ow hs
      rw [h0'] at q1
      cases q1
end
/-! ## range(i, j, -1) -/
section
variable {K : PySem.W.Frag} {C : Ctab} {F H : Hp}
theorem wlk_down (lo : Int) (n : Nat) : Wlk K C F (Itc lo (-1) n) ((List.range n).map fun (k : Nat) => D.int (lo - k)) := fun i F2 H2 e1 e2 => by
  refine ⟨fun hl => ?_, fun y hy => ?_⟩
  · show n ≤ i
    simpa using hl
  · rw [List.getElem?_map] at hy
    by_cases hi : i < n
    · rw [List.getElem?_range hi] at hy
      cases hy
      exact ⟨hi, fun w H3 ⟨z, z2⟩ => by
        subst z z2
        refine ⟨F2, Gr.refl e2, ?_⟩
        rw [show lo + (i : Nat) * (-1) = lo - (i : Nat) by omega]
        exact .int _⟩
    · rw [List.getElem?_eq_none (by simpa using hi)] at hy
      cases hy
end
section
variable {T S : Type} {g : G} {Γ : List Sl} {a b c tg : Expr} {pos p1 : Pos}
def range3 : D → D → D → Option (List D)
  | .int i, .int j, .int k => if (k = -1 ∧ rngOk i = true) ∧ rngOk j = true then some ((List.range (i - j).toNat).map fun (k : Nat) => D.int (i - k)) else none
  | _, _, _ => none
theorem ci_range3 {r r2 r3 : R D} (h : CE g a Γ r) (h2 : CE g b Γ r2) (h3 : CE g c Γ r3) (hm : g.X.mg "range" = none) (hg : Gl g.X "range" := by rfl)
    (s1 : starEach [a, b, c] g.X.env = [(false, eval a g.X.env), (false, eval b g.X.env), (false, eval c g.X.env)] := by rfl) (s2 : starEach [b, c] g.X.env = [(false, eval b g.X.env), (false, eval c g.X.env)] := by rfl)
    (s3 : starEach [c] g.X.env = [(false, eval c g.X.env)] := by rfl) :
    CI g tg (.Call (.Name "range" p1) [a, b, c] [] pos) Γ (r >>= fun x => r2 >>= fun y => r3 >>= fun z => .of (range3 x y z)) := .mk fun F H σ Rr E p => by
  refine wI_of (pi_range3 hg hm (pa_cons (pe_w _ a) (pa_cons (pe_w _ b) (pa_cons (pe_w _ c) pa_nil s3) (by rw [s2, s3])) (by rw [s1, s2])) (by rw [s1, s2]) (by rw [s2]; rfl)) ?_
  refine h F H σ _ E (p.seq fun x v F1 H1 g1 r1 p1 => h2 F1 H1 σ _ (E.grow g1) (p1.seq fun y w F2 H2 g2 r2' p2 => h3 F2 H2 σ _ ((E.grow g1).grow g2) (p2.seq fun z u F3 H3 g3 r3' q => ?_)))
  cases x <;> cases y <;> cases z <;> try (exact (show False from q).elim)
  rename_i i j k
  unfold range3 at q
  dsimp only at q
  split at q
  · rename_i ok
    have ok1 := of_decide_eq_true ok.1.2
    have ok2 := of_decide_eq_true ok.2
    obtain rfl := ok.1.1
    refine ⟨i, j, -1, (i - j).toNat, by rw [int_of r1, int_of r2', int_of r3'], RgC.neg (by omega) (by omega) (by omega) (by omega), ?_⟩
    exact q _ F3 H3 (Gr.refl g3.fh) (wlk_down i (i - j).toNat)
  · exact (show False from q).elim
end
end DL
end
section
set_option Elab.async false
set_option linter.all false
set_option maxRecDepth 100000
set_option maxHeartbeats 4000000
set_option autoImplicit false
namespace DL
open PySem PySem.Spec PyProof.Rows L2
variable [TN]

/-! ## defs that hand back something new: a list, a dict -/
def PostW {α : Type} (ρ : Rep V α) (K : PySem.W.Frag) (C : Ctab) (F H : Hp) (Q : VK) (E : XK) : R α → Prop
  | .ok d => ∀ v F' H', Gr F H F' H' → ρ.r H F' H' v d → Q v H'
  | .ex c x => ∀ cl dx F' H', Gr F H F' H' → ExR K C F' cl dx c x → E cl (some dx) H'
  | _ => False
def spW {α : Type} (ρ : Rep V α) (K : PySem.W.Frag) (C : Ctab) (m : List D → R α) : Sp := fun vs H Q E => ∃ F ds, Ex F H ∧ LamX.Tabs TN.T H ∧ RpA K C F vs ds ∧ PostW ρ K C F H Q E (m ds)
def ζW {α : Type} (ρ : Rep V α) (B : Hp) : Ret α := ⟨fun F H v d => ρ.r B F H v d⟩
def finW {α S : Type} : R (Fl α S) → R α
  | .ok (.rt d) => .ok d
  | .ok (.nx _) => .un
  | .ex c x => .ex c x
  | .un => .un
section
variable {α T S : Type} {g : G} {Γ : List Sl} {γ : S → List Sl} {e a b c : Expr} {pos p1 : Pos} {sts : List Stmt}
theorem cb_retW {ρ : Rep V α} {r : R α} (h : CG g ρ e Γ r) : CB g (ζW ρ g.B) γ (.Return (some e) pos :: sts) Γ (r >>= fun x => .ok (.rt x)) := .mk fun F H σ Dn E p =>
  wB_of (pss_cons (ps_ret (pe_w _ e)) (pss_w _ sts)) (h F H σ _ E (p.expr E fun x v F1 H1 g1 r1 E1 p' => p' v F1 H1 E1.toBas (ρ.back (fun _ => E.eb.back) r1)))
/-- return of an own list -/
theorem cb_retWl (i : Nat) {n : Str} {xs : List D} (hi : Γ[i]? = some (.l xs) := by rfl) (hN : g.X.N[i]? = some n := by rfl)
    (hv : Vis g.X.env.scope n := by first | exact Or.inl rfl | exact Or.inr (Or.inl rfl) | exact Or.inr (Or.inr rfl)) (hd : (n == ("__debug__" : Str)) = false := by decide) (hcd : (n == ("__classdict__" : Str)) = false := by decide) :
    CB g (ζW (rN g.X.K g.C) g.B) γ (.Return (some (.Name n p1)) pos :: sts) Γ (.ok (.rt xs)) := .mk fun F H σ Dn E p => by
  refine wB_of (pss_cons (ps_ret (pe_var hN hv hd hcd)) (pss_w _ sts)) ?_
  obtain ⟨o, h1, ad, vs, rfl, hb, hf, hh, ra⟩ := E.sl i _ hi
  exact ⟨_, h1, p _ F H E.toBas ⟨ad, vs, rfl, hb, hf, hh, ra⟩⟩
/-- return of an own dict -/
theorem cb_retWk (i : Nat) {n : Str} {ad : Addr} {kvs : DK} (hi : Γ[i]? = some (.k ad kvs) := by rfl) (hN : g.X.N[i]? = some n := by rfl)
    (hv : Vis g.X.env.scope n := by first | exact Or.inl rfl | exact Or.inr (Or.inl rfl) | exact Or.inr (Or.inr rfl)) (hd : (n == ("__debug__" : Str)) = false := by decide) (hcd : (n == ("__classdict__" : Str)) = false := by decide) :
    CB g (ζW (rK g.X.K g.C) g.B) γ (.Return (some (.Name n p1)) pos :: sts) Γ (.ok (.rt kvs)) := .mk fun F H σ Dn E p => by
  refine wB_of (pss_cons (ps_ret (pe_var hN hv hd hcd)) (pss_w _ sts)) ?_
  obtain ⟨o, h1, ws, rfl, hb, hf, hh, ra⟩ := E.sl i _ hi
  exact ⟨_, h1, p _ F H E.toBas ⟨ad, ws, rfl, hb, hf, hh, ra⟩⟩
theorem Post.toW {ρ : Rep V α} {F H : Hp} {σ : L2.St} {Q : VK} {r : R α} (h : Post g ρ F H σ Q r) : PostW ρ g.X.K g.C F H Q (WE g.W σ) r := by
  cases r with
  | ok d => exact h
  | ex c x => exact h
  | un => exact h
theorem ce_callW {ρ : Rep V α} {bb : Bool} {k : Nat} {f : Addr} {fd : FuncData} {ps : List Str} {m : List D → R α} {x : Str} {es : List Expr} {r : R (List D)} {dvs : List V} {ds : List Value} {dds : List D}
    (Fn : FnG g.X.prog g.X.w g.X.K g.X.mg g.X.base (L2.CX g.X.prog g.X.w) bb k f fd ps (spW ρ g.X.K g.C m)) (hbb : bb = true → g.b = true) (hr : Room k g.X.A)
    (hm : g.X.mg x = some (.ref f)) (hk : PySem.W.keepIn g.X.K (.ref f) = true) (hb : Binds g.X.K fd ps ds) (hd : Vals dvs ds) (hdd : ∀ F, RpA g.X.K g.C F dvs dds) (ha : CA g (a :: es) Γ r) (hg : Gl g.X x := by rfl) (hdb : (x == ("__debug__" : Str)) = false := by decide)
    (he : starEach (a :: es) g.X.env = (false, eval a g.X.env) :: starEach es g.X.env := by rfl) (hpl : (backTo pos (starEach es g.X.env)).any (·.1) = false := by rfl) :
    CG g ρ (.Call (.Name x p1) (a :: es) [] pos) Γ (r >>= fun ds => m (ds ++ dds)) := .mk fun F H σ Q E p =>
  wE_of (pe_callG Fn (fun z => g.gd (hbb z)) hr hg hm hk hb hd g.ps (pa_w _ _) hdb he hpl) (ha F H σ _ E (p.seq fun xs vs F1 H1 g1 r1 p1 => ⟨F1, xs ++ dds, g1.fh, g.tabs (E.toBas.grow g1), RpA.append r1 (hdd F1), p1.toW⟩))
end
section
variable {α : Type} {ρ : Rep V α} {P : Program} {w : World} {K : PySem.W.Frag} {mg : Str → Option Value} {base : Heap} {bb : Bool}
theorem fnW_dl {x qual : Str} {params : Arguments} {bd : List Stmt} {scope : Scope} {dvs : List V} {kws : List (Str × V)} {f : Addr} {fd : FuncData} {N ps : List Str} {k : Nat} {C : Ctab} {m : List D → R α} (Fn : FunD K x qual params bd scope dvs kws f fd) (S : FnScope N ps scope) (hN : ps.length ≤ N.length) (hm : ∀ ds, ds.length ≠ ps.length → m ds = .un)
    (body : ∀ (cdv : Value) (A : Around) (outer : List PySem.Env) (s : Shared) (H : Hp) (E : XK) (F0 : Hp) (gd : bb = true → A.guards = some []) (hcd : CodeAt K f cdv) (hT : LamX.Tabs TN.T H), Room k (gOf P w K mg base C N qual scope f cdv A outer s H E F0 gd hT).X.A → ∀ ds : List D, ds.length = ps.length →
      ∃ r, m ds = finW r ∧ CB (gOf P w K mg base C N qual scope f cdv A outer s H E F0 gd hT) (ζW ρ H) (fun _ : Unit => List.replicate N.length Sl.no) bd (ds.map Sl.d ++ List.replicate (N.length - ds.length) Sl.no) r) :
    FnG P w K mg base (L2.CX P w) bb (k + 1) f fd ps (spW ρ K C m) := by
  have len : ∀ vs H Q E, spW ρ K C m vs H Q E → vs.length = ps.length := fun vs H Q E h => by
    obtain ⟨F, ds, e, _, r, p⟩ := h
    rw [r.length]
    by_cases hl : ds.length = ps.length
    · exact hl
    · rw [hm ds hl] at p
      exact p.elim
  obtain ⟨oc, od, dV, kV, doc, pm, an, cdv, ct, osl, rfl, lk, hcd, _, _⟩ := Fn.ex
  refine fnG_of lk hcd S len fun A outer s H vs Q E gd hr h => ?_
  have hl := len _ _ _ _ h
  obtain ⟨F, ds, e, hT, r, p⟩ := h
  have hd : ds.length = ps.length := by
    rw [← r.length]
    exact hl
  obtain ⟨rr, em, hb⟩ := body cdv A outer s H E F gd ⟨_, _, _, _, lk, rfl, _, hcd⟩ hT hr ds hd
  refine ⟨_, pss_w _ _, hb F H _ _ (start_env e r (by omega)) ?_⟩
  rw [em] at p
  have fin0 : ∀ {F' H' : Hp}, Bas H F F' H' → Gr F H F' H' := fun b => ⟨b.e0, b.eb, b.ef, fun a o h1 h2 => b.fr a o h1 h2, b.tb⟩
  cases rr with
  | ok fl =>
    cases fl with
    | nx u => exact p.elim
    | rt d => exact fun v F' H' b rv => p v F' H' (fin0 b) rv
  | ex c z => exact fun cl dx σ' F' H' b er => p cl dx F' H' (fin0 b) er
  | un => exact p
def mW1 {α : Type} (m : D → R α) : List D → R α
  | [a] => m a
  | _ => .un
def mW2 {α : Type} (m : D → D → R α) : List D → R α
  | [a, b] => m a b
  | _ => .un
def mW3 {α : Type} (m : D → D → D → R α) : List D → R α
  | [a, b, c] => m a b c
  | _ => .un
def mW4 {α : Type} (m : D → D → D → D → R α) : List D → R α
  | [a, b, c, d] => m a b c d
  | _ => .un
def mW5 {α : Type} (m : D → D → D → D → D → R α) : List D → R α
  | [a, b, c, d, e] => m a b c d e
  | _ => .un
def mW6 {α : Type} (m : D → D → D → D → D → D → R α) : List D → R α
  | [a, b, c, d, e, f] => m a b c d e f
  | _ => .un
section
variable {α : Type} {ρ : Rep V α} {x qual : Str} {params : Arguments} {bd : List Stmt} {scope : Scope} {dvs : List V} {kws : List (Str × V)} {f : Addr} {fd : FuncData} {N : List Str} {a1 a2 a3 a4 a5 a6 : Str} {k : Nat} {C : Ctab}
theorem fnW1 {m : D → R α} {mb : D → R (Fl α Unit)} (em : ∀ a, m a = finW (mb a)) (Fn : FunD K x qual params bd scope dvs kws f fd) (S : FnScope N [a1] scope) (hN : ([a1] : List Str).length ≤ N.length)
    (body : ∀ (cdv : Value) (A : Around) (outer : List PySem.Env) (s : Shared) (H : Hp) (E : XK) (F0 : Hp) (gd : bb = true → A.guards = some []) (hcd : CodeAt K f cdv) (hT : LamX.Tabs TN.T H), Room k (gOf P w K mg base C N qual scope f cdv A outer s H E F0 gd hT).X.A → ∀ a : D,
      CB (gOf P w K mg base C N qual scope f cdv A outer s H E F0 gd hT) (ζW ρ H) (fun _ : Unit => List.replicate N.length Sl.no) bd ([Sl.d a] ++ List.replicate (N.length - 1) Sl.no) (mb a)) :
    FnG P w K mg base (L2.CX P w) bb (k + 1) f fd [a1] (spW ρ K C (mW1 m)) := fnW_dl Fn S hN (fun ds h => match ds, h with
      | [], _ => rfl
      | [_], h => absurd rfl h
      | _ :: _ :: _, _ => rfl) fun cdv A outer s H E F0 gd hcd hT hr ds hl => match ds, hl with
      | [a], _ => ⟨_, em a, body cdv A outer s H E F0 gd hcd hT hr a⟩
theorem fnW2 {m : D → D → R α} {mb : D → D → R (Fl α Unit)} (em : ∀ a b, m a b = finW (mb a b)) (Fn : FunD K x qual params bd scope dvs kws f fd) (S : FnScope N [a1, a2] scope) (hN : ([a1, a2] : List Str).length ≤ N.length)
    (body : ∀ (cdv : Value) (A : Around) (outer : List PySem.Env) (s : Shared) (H : Hp) (E : XK) (F0 : Hp) (gd : bb = true → A.guards = some []) (hcd : CodeAt K f cdv) (hT : LamX.Tabs TN.T H), Room k (gOf P w K mg base C N qual scope f cdv A outer s H E F0 gd hT).X.A → ∀ a b : D,
      CB (gOf P w K mg base C N qual scope f cdv A outer s H E F0 gd hT) (ζW ρ H) (fun _ : Unit => List.replicate N.length Sl.no) bd ([Sl.d a, Sl.d b] ++ List.replicate (N.length - 2) Sl.no) (mb a b)) :
    FnG P w K mg base (L2.CX P w) bb (k + 1) f fd [a1, a2] (spW ρ K C (mW2 m)) := fnW_dl Fn S hN (fun ds h => match ds, h with
      | [], _ => rfl
      | [_], _ => rfl
      | [_, _], h => absurd rfl h
      | _ :: _ :: _ :: _, _ => rfl) fun cdv A outer s H E F0 gd hcd hT hr ds hl => match ds, hl with
      | [a, b], _ => ⟨_, em a b, body cdv A outer s H E F0 gd hcd hT hr a b⟩
theorem fnW3 {m : D → D → D → R α} {mb : D → D → D → R (Fl α Unit)} (em : ∀ a b c, m a b c = finW (mb a b c)) (Fn : FunD K x qual params bd scope dvs kws f fd) (S : FnScope N [a1, a2, a3] scope) (hN : ([a1, a2, a3] : List Str).length ≤ N.length)
    (body : ∀ (cdv : Value) (A : Around) (outer : List PySem.Env) (s : Shared) (H : Hp) (E : XK) (F0 : Hp) (gd : bb = true → A.guards = some []) (hcd : CodeAt K f cdv) (hT : LamX.Tabs TN.T H), Room k (gOf P w K mg base C N qual scope f cdv A outer s H E F0 gd hT).X.A → ∀ a b c : D,
      CB (gOf P w K mg base C N qual scope f cdv A outer s H E F0 gd hT) (ζW ρ H) (fun _ : Unit => List.replicate N.length Sl.no) bd ([Sl.d a, Sl.d b, Sl.d c] ++ List.replicate (N.length - 3) Sl.no) (mb a b c)) :
    FnG P w K mg base (L2.CX P w) bb (k + 1) f fd [a1, a2, a3] (spW ρ K C (mW3 m)) := fnW_dl Fn S hN (fun ds h => match ds, h with
      | [], _ => rfl
      | [_], _ => rfl
      | [_, _], _ => rfl
      | [_, _, _], h => absurd rfl h
      | _ :: _ :: _ :: _ :: _, _ => rfl) fun cdv A outer s H E F0 gd hcd hT hr ds hl => match ds, hl with
      | [a, b, c], _ => ⟨_, em a b c, body cdv A outer s H E F0 gd hcd hT hr a b c⟩
theorem fnW4 {m : D → D → D → D → R α} {mb : D → D → D → D → R (Fl α Unit)} (em : ∀ a b c d, m a b c d = finW (mb a b c d)) (Fn : FunD K x qual params bd scope dvs kws f fd) (S : FnScope N [a1, a2, a3, a4] scope) (hN : ([a1, a2, a3, a4] : List Str).length ≤ N.length)
    (body : ∀ (cdv : Value) (A : Around) (outer : List PySem.Env) (s : Shared) (H : Hp) (E : XK) (F0 : Hp) (gd : bb = true → A.guards = some []) (hcd : CodeAt K f cdv) (hT : LamX.Tabs TN.T H), Room k (gOf P w K mg base C N qual scope f cdv A outer s H E F0 gd hT).X.A → ∀ a b c d : D,
      CB (gOf P w K mg base C N qual scope f cdv A outer s H E F0 gd hT) (ζW ρ H) (fun _ : Unit => List.replicate N.length Sl.no) bd ([Sl.d a, Sl.d b, Sl.d c, Sl.d d] ++ List.replicate (N.length - 4) Sl.no) (mb a b c d)) :
    FnG P w K mg base (L2.CX P w) bb (k + 1) f fd [a1, a2, a3, a4] (spW ρ K C (mW4 m)) := fnW_dl Fn S hN (fun ds h => match ds, h with
      | [], _ => rfl
      | [_], _ => rfl
      | [_, _], _ => rfl
      | [_, _, _], _ => rfl
      | [_, _, _, _], h => absurd rfl h
      | _ :: _ :: _ :: _ :: _ :: _, _ => rfl) fun cdv A outer s H E F0 gd hcd hT hr ds hl => match ds, hl with
      | [a, b, c, d], _ => ⟨_, em a b c d, body cdv A outer s H E F0 gd hcd hT hr a b c d⟩
end
end
end DL
end
section
set_option Elab.async false
set_option linter.all false
set_option maxRecDepth 100000
set_option maxHeartbeats 4000000
set_option autoImplicit false
namespace DL
open PySem PySem.Spec PyProof.Rows L2
variable [TN]

/-! ## {'k': e, ..} -/
def rP (K : PySem.W.Frag) (C : Ctab) : Rep (List (V × V)) DK := ⟨fun _ F _ ps kvs => ∃ ws : List (Key × V), ps = ws.map (fun kv => (kV kv.1, kv.2)) ∧ RpK K C F ws kvs,
  fun _ h => h, fun g ⟨ws, e, r⟩ => ⟨ws, e, r.mono g.f⟩⟩
section
variable {g : G} {Γ : List Sl} {e : Expr} {pos p1 : Pos} {kk : Nat} {keys : List (Option Expr)} {vals : List Expr}
def CDp (g : G) (pos : Pos) (keys : List (Option Expr)) (vals : List Expr) (Γ : List Sl) (r : R DK) : Prop :=
  ∃ trs, PPs g.X pos keys vals trs ∧ ∀ (F H : Hp) (σ : L2.St) (Q : List (V × V) → Hp → Prop), g.Env F H σ Γ → Post g (rP g.X.K g.C) F H σ Q r → tPairs trs σ H Q
theorem cdp_nil : CDp g pos [] [] Γ (.ok []) := ⟨[], pps_nil, fun F H σ Q E p => p [] F H (Gr.refl E.toBas.ef) ⟨[], rfl, .nil⟩⟩
theorem cdp_cons {key : Str} {ra : R D} {rt : R DK} (h : CE g e Γ ra) (t : CDp g pos keys vals Γ rt) : CDp g pos (some (.Constant (.str key) kk p1) :: keys) (e :: vals) Γ (ra >>= fun x => rt >>= fun l => .ok ((.inr key, x) :: l)) := by
  obtain ⟨trs, h1, h2⟩ := t
  refine ⟨_, pps_cons pe_str (pe_w _ e) h1, fun F H σ Q E p => ?_⟩
  refine h F H σ _ E (p.seq fun x v F1 H1 g1 r1 p1 => h2 F1 H1 σ _ (E.grow g1) (p1.seq fun l ps F2 H2 g2 r2 p2 => ?_))
  obtain ⟨ws, rfl, rk⟩ := r2
  exact p2 _ F2 H2 (Gr.refl g2.fh) ⟨(.inr key, v) :: ws, rfl, .cons ⟨rfl, r1.mono g2.f⟩ rk⟩
theorem Gr.fill {F H F2 H2 : Hp} {p : Addr} {o : HO} (g : Gr F (upd H p (.dK [])) F2 H2) (e : Ex F H) (hp : H p = none) : Gr F H F2 (upd H2 p o) := by
  have a0 := Gr.own e (o := .dK []) hp
  have gg := a0.trans g
  have hf : F2 p = none := g.n p _ upd_same (e.back hp)
  have at2 : H2 p = some (.dK []) := g.h.at upd_same
  exact ⟨gg.f, gg.h.write hp, gg.fh.write hf, gg.n, gg.t.trans (TX.write at2 (by first | trivial | decide | exact ⟨(fun _ z => nomatch z), (fun _ z => nomatch z)⟩ | simp [nx]))⟩
theorem ck_disp {r : R DK} (h : CDp g pos keys vals Γ r) (hall : keys.all (·.isSome) = true := by rfl) (hl : keys.length = vals.length := by rfl) (h0 : keys ≠ [] := by exact fun z => nomatch z) (h15 : keys.length ≤ 15 := by decide) :
    CG g (rK g.X.K g.C) (.Dict keys vals pos) Γ (r >>= fun l => if l.length ≤ 15 then .ok (dmerge [] l) else .un) := .mk fun F H σ Q E p => by
  obtain ⟨trs, h1, h2⟩ := h
  refine wE_of (pe_disp h1 hall hl h0 h15) fun q hq => ?_
  have gr : Gr F H F (upd H q (.dK [])) := Gr.own E.toBas.ef hq
  refine h2 F _ σ _ (E.grow gr) ?_
  cases r with
  | un => exact (show False from p).elim
  | ex c x =>
    intro cl dx F' H' g' er
    exact p cl dx F' H' (gr.trans g') er
  | ok l =>
    have p' : Post g (rK g.X.K g.C) F H σ Q (if l.length ≤ 15 then .ok (dmerge [] l) else .un) := p
    intro ps F2 H2 g2 r2
    split at p'
    case isFalse => exact (show False from p').elim
    rename_i hz
    obtain ⟨ws, rfl, rk⟩ := r2
    have at2 : H2 q = some (.dK []) := g2.h.at upd_same
    refine ⟨at2, ws, rfl, by rw [rk.length]; exact hz, ?_⟩
    exact p' _ F2 _ (Gr.fill g2 E.toBas.ef hq) ⟨q, _, rfl, hq, g2.n q _ upd_same (E.toBas.ef.back hq), upd_same, RpK.merge rk .nil⟩
end
end DL
end
section
set_option Elab.async false
set_option linter.all false
set_option maxRecDepth 100000
set_option maxHeartbeats 4000000
set_option autoImplicit false
namespace DL
open PySem PySem.Spec PyProof.Rows L2
variable [TN]
section
variable {T S : Type} {g : G} {ζ : Ret T} {Γ : List Sl} {γ : S → List Sl} {e b c : Expr} {a : Addr} {s : DK} {pos p1 p2 p3 : Pos} {sts : List Stmt}
/-- x, y = (e, e'): both may change the state -/
theorem cb_parS (l i j : Nat) {n m : Str} {kt k2 : Nat} {tp tp2 : Pos} {ra : R (D × DK)} {rb : DK → R (D × DK)} {k : D → D → DK → R (Fl T S)} (ha : CES g a b Γ ra) (hb : ∀ s', CES g a c (Γ.set l (.k a s')) (rb s')) (h2 : ∀ x y s', CB g ζ γ sts (((Γ.set l (.k a s')).set i (.d x)).set j (.d y)) (k x y s')) (hc : g.X.calm = true)
    (nd : g.X.N.Nodup) (hw : swappedStores [.Tuple [.Name n p1, .Name m p2] kt tp] (.Tuple [b, c] k2 tp2) g.X.env = pure (some [n, m])) (hll : l < Γ.length) (hk : Γ[l]? = some (.k a s) := by rfl) (hij : i ≠ j := by decide) (hN : g.X.N[i]? = some n := by rfl) (hx : g.X.env.scope.names.lookup n = some .local := by rfl) (hj : g.X.N[j]? = some m := by rfl) (hy : g.X.env.scope.names.lookup m = some .local := by rfl)
    (hs : swapsWithSole [.Tuple [.Name n p1, .Name m p2] kt tp] (.Tuple [b, c] k2 tp2) pos.line g.X.env = pure false := by rfl)
    (s1 : starEach [b, c] g.X.env = (false, eval b g.X.env) :: starEach [c] g.X.env := by rfl) (s2 : starEach [c] g.X.env = [(false, eval c g.X.env)] := by rfl) :
    CB g ζ γ (.Assign [.Tuple [.Name n p1, .Name m p2] kt tp] (.Tuple [b, c] k2 tp2) pos :: sts) Γ (bnd ra fun x t => bnd (rb t) fun y t => k x y t) := .mk fun F H σ Dn E p => by
  refine wB_of (pss_cons (ps_par hc nd hN hj hij hx hy (pa_cons (pe_w _ b) (pa_cons (pe_w _ c) pa_nil s2) s1) hw hs) (pss_w _ sts)) ?_
  refine ha F H σ _ E (PostS.exprT (k := fun x t => rb t >>= fun u => k x u.1 u.2) hk E p fun x s1 v F1 H1 g1 r1 E1 p' => ?_)
  have hk1 : (Γ.set l (.k a s1))[l]? = some (.k a s1) := by rw [List.getElem?_set_self hll]
  refine hb s1 F1 H1 σ _ E1 (PostS.exprT (k := fun y t => k x y t) hk1 E1 p' fun y s2 w F2 H2 g2 r2 E2 p2 => ?_)
  rw [List.set_set] at E2
  exact ⟨v, w, rfl, h2 x y s2 F2 H2 _ Dn ((EnvOk.set_d E2 i (Rp.mono g2.f r1)).set_d j r2) p2⟩
end
end DL
end
section
set_option Elab.async false
set_option linter.all false
set_option maxRecDepth 100000
set_option maxHeartbeats 4000000
set_option autoImplicit false
namespace DL
open PySem PySem.Spec PyProof.Rows L2
variable [TN]
theorem nob {p : Prop} (z : false = true) : p := nomatch z
theorem CodeAt.eq {K : PySem.W.Frag} {f : Addr} {c d : Value} (h : CodeAt K f c) (h2 : CodeAt K f d) : c = d := by
  obtain ⟨_, _, _, fd, l1, rfl, _⟩ := h
  obtain ⟨_, _, _, fd2, l2, rfl, _⟩ := h2
  rw [l1] at l2
  cases l2
  rfl
theorem Wk.state {s : Sl} {a : List Sl} {n : Nat} (h : a.length = n) : Wk (s :: a) (s :: List.replicate n .no) := .keep (Wk.no h)
section
variable {α γ : Type} {g : G} {ρ : Rep V α} {ρ' : Rep V γ} {a : Addr} {Γ : List Sl} {e : Expr}
/-- another way to bear the same -/
theorem CGS.conv {f : α → γ} {r : R (α × DK)} (h : CGS g ρ a e Γ r) (c : ∀ H0 F H v x, Ex F H → ρ.r H0 F H v x → ρ'.r H0 F H v (f x)) : CGS g ρ' a e Γ (bnd r fun x t => .ok (f x, t)) := .mk fun F H σ Q E p => h F H σ Q E (by
  cases r with
  | ok x => exact fun b F' H' gr st rr => p b F' H' gr st (c _ _ _ _ _ gr.fh rr)
  | ex c x => exact fun cl dx F' H' gr er => p cl dx F' H' gr er
  | un => exact p)
theorem CNS.m {r : R (List D × DK)} (h : CNS g a e Γ r) : CGS g (rM g.X.K g.C) a e Γ r := .mk fun F H σ Q E p => h F H σ Q E (by
  cases r with
  | ok x => exact fun v F' H' gr st ⟨q, vs, ev, _, _, hs, ra⟩ => p v F' H' gr st ⟨q, vs, ev, hs, ra⟩
  | ex c x => exact p
  | un => exact p)
theorem CNS.l {r : R (List D × DK)} (h : CNS g a e Γ r) : CLS g a e Γ r := .mk fun F H σ Q E p => h F H σ Q E (by
  cases r with
  | ok x => exact fun v F' H' gr st ⟨q, vs, ev, _, _, hs, ra⟩ => p v F' H' gr st ⟨q, vs, ev, SqL.of hs, ra⟩
  | ex c x => exact p
  | un => exact p)
theorem CNS.fz {r : R (List D × DK)} (h : CNS g a e Γ r) : CES g a e Γ (bnd r fun xs t => .ok (D.lst xs, t)) := .mk fun F H σ Q E p => h F H σ Q E (by
  cases r with
  | ok x =>
    intro v F' H' gr st ⟨q, vs, ev, h0, hf, hs, ra⟩
    subst ev
    have xF : Ex F' (upd F' q (.lst vs)) := Ex.new hf
    have qa : q ≠ a := st.list hs
    refine p _ (upd F' q (.lst vs)) H' ⟨gr.f.trans xF, gr.h, gr.fh.over hs, fun c u h1 h2 => ?_, gr.t⟩ ?_ (.lst upd_same (ra.mono xF))
    · rw [upd_ne (ne_of_none h1 h0)]
      exact gr.n c u h1 h2
    · obtain ⟨f, ws, hh, r⟩ := st
      exact ⟨by rw [upd_ne (Ne.symm qa)]; exact f, ws, hh, r.mono xF⟩
  | ex c x => exact p
  | un => exact p)
theorem rL_s {K : PySem.W.Frag} {C : Ctab} {H0 F H F' H' : Hp} {v : V} {x : List D} {s : DK} (gr : GrS a F H F' H') (st : StA K C F H a s) (r : (rL K C).r H0 F H v x) : (rL K C).r H0 F' H' v x := by
  obtain ⟨p, vs, e, h, r⟩ := r
  refine ⟨p, vs, e, ?_, r.mono gr.f⟩
  rcases h with (h | ⟨o, h⟩) | h
  · exact .inl (.inl (gr.keep (st.list h) h))
  · refine .inl (.inr ⟨o, gr.keep (fun z => ?_) h nt_frz⟩)
    obtain ⟨_, ws, hh, _⟩ := st
    subst z
    rw [hh] at h
    cases h
  · exact .inr h
end
section
variable {T S : Type} {g : G} {ζ : Ret T} {Γ : List Sl} {γ : S → List Sl} {e b c : Expr} {es : List Expr} {a : Addr} {s : DK} {pos p1 p2 p3 p0 apos : Pos} {k0 : Nat} {sts : List Stmt}
/-- ''.join(e), e with the state -/
theorem ces_join {x0 : Str} {r : R (List D × DK)} (h : CLS g a e Γ r) (hs : starEach [e] g.X.env = [(false, eval e g.X.env)] := by rfl)
    (hbase : attributeBase (.Constant (.str x0) k0 p0) "join" g.X.env (eval (.Constant (.str x0) k0 p0) g.X.env) = eval (.Constant (.str x0) k0 p0) g.X.env := by rfl) (hline : (apos.endLine == pos.line) = true := by rfl) :
    CES g a (.Call (.Attribute (.Constant (.str x0) k0 p0) "join" apos) [e] [] pos) Γ (bnd r fun xs t => .of (joinD (.str x0) xs) >>= fun x => .ok (x, t)) := .mk fun F H σ Q E p => by
  refine wE_of (pe_join pe_str (pe_w _ e) hs hbase hline) ?_
  refine ⟨⟨_, rfl⟩, h F H σ _ E (p.seq (k := fun ys t => R.of (joinD (.str x0) ys) >>= fun x => .ok (x, t)) fun ys s1 v F1 H1 g1 st1 r1 p1 => ?_)⟩
  obtain ⟨q, vs, rfl, h1, a1⟩ := r1
  have p2 : PostT g (rD g.X.K g.C) a F1 H1 σ Q (.of (strsD ys >>= fun ks => if (ks.map (·.length)).sum + ks.length * x0.length ≤ 16777216 then some (.str (Txt.join x0 ks)) else none) >>= fun x => .ok (x, s1)) := p1
  clear p1
  cases e1 : strsD ys with
  | none =>
    rw [e1] at p2
    exact (show False from p2).elim
  | some ks =>
    rw [e1] at p2
    have p3 : PostT g (rD g.X.K g.C) a F1 H1 σ Q (.of (if (ks.map (·.length)).sum + ks.length * x0.length ≤ 16777216 then some (D.str (Txt.join x0 ks)) else none) >>= fun x => .ok (x, s1)) := p2
    clear p2
    by_cases hz : (ks.map (·.length)).sum + ks.length * x0.length ≤ 16777216
    · rw [if_pos hz] at p3
      have e2 := strs_of e1
      subst e2
      have e3 := a1.strs
      subst e3
      exact ⟨x0, q, ks, rfl, rfl, .inl h1, hz, p3.here g1.fh st1 (.str _)⟩
    · rw [if_neg hz] at p3
      exact (show False from p3).elim
/-- xs[e] = e', e' with the state -/
theorem cb_setIxS (l i : Nat) {n : Str} {xs : List D} {r : R (D × DK)} {ri : DK → R D} {k : List D → DK → R (Fl T S)} (h : CES g a e Γ r) (hix : ∀ s', CE g b (Γ.set l (.k a s')) (ri s')) (h2 : ∀ ys s', CB g ζ γ sts ((Γ.set l (.k a s')).set i (.l ys)) (k ys s'))
    (hk : Γ[l]? = some (.k a s) := by rfl) (hi : ∀ s', (Γ.set l (.k a s'))[i]? = some (.l xs) := by intro _; rfl) (hN : g.X.N[i]? = some n := by rfl)
    (hv : Vis g.X.env.scope n := by first | exact Or.inl rfl | exact Or.inr (Or.inl rfl) | exact Or.inr (Or.inr rfl)) (hd : (n == ("__debug__" : Str)) = false := by decide) (hcd : (n == ("__classdict__" : Str)) = false := by decide)
    (hs1 : swapsWithSole [.Subscript (.Name n p1) b p2] e pos.line g.X.env = pure false := by rfl) (hs2 : swappedStores [.Subscript (.Name n p1) b p2] e g.X.env = pure none := by rfl) (hs3 : (assignEach [.Subscript (.Name n p1) b p2] g.X.env).map (·.2) = [assign (.Subscript (.Name n p1) b p2) g.X.env] := by rfl)
    (ha : ∀ v, assign (.Subscript (.Name n p1) b p2) g.X.env v = (do
      let ov ← holding [v] (eval (.Name n p1) g.X.env)
      let iv ← holding [v, ov] (eval b g.X.env)
      standAt p2
      holding [v, ov, iv] (setItem ov iv v)
      release [v, ov, iv] []) := by intro _; rfl) :
    CB g ζ γ (.Assign [.Subscript (.Name n p1) b p2] e pos :: sts) Γ (bnd r fun x t => ri t >>= fun y => R.of (lset xs y x) >>= fun ys => k ys t) := .mk fun F H σ Dn E p => by
  refine wB_of (pss_cons (ps_asg (pe_w _ e) (pg_sub (pe_var hN hv hd hcd) (pe_w _ b) set_list ha) hs1 hs2 hs3) (pss_w _ sts)) ?_
  refine h F H σ _ E (PostS.exprT (k := fun x t => ri t >>= fun y => R.of (lset xs y x) >>= fun ys => k ys t) hk E p fun x s1 v F1 H1 g1 r1 E1 p' => ?_)
  obtain ⟨o, h1, ad, vs, rfl, hb, hf, hh, ra⟩ := E1.sl i _ (hi s1)
  refine ⟨_, h1, ?_⟩
  refine hix s1 F1 H1 σ _ E1 (p'.expr E1 fun y w F2 H2 g2 r2 E2 p2 => ?_)
  cases y <;> try (exact (show False from p2).elim)
  rename_i z
  have p3 : PostS g ζ γ Dn F2 (R.of ((ixN xs.length z).map fun j => xs.set j x) >>= fun ys => k ys s1) := p2
  cases q : ixN xs.length z with
  | none =>
    rw [q] at p3
    exact (show False from p3).elim
  | some j =>
    rw [q] at p3
    have hh2 := g2.h.at hh
    refine ⟨ad, vs, z, j, rfl, int_of r2, hh2, by rw [ra.length]; exact q, ?_⟩
    exact h2 _ s1 F2 _ σ Dn (EnvOk.write E2 (hi s1) rfl h1 ⟨ad, _, rfl, hb, g2.n _ _ hh hf, upd_same, (ra.mono g2.f).set (Rp.mono g2.f r1) j⟩) p3
/-- f(..), f pure, arguments with the state -/
theorem ces_callP (i : Nat) {bb : Bool} {k : Nat} {f : Addr} {fd : FuncData} {ps : List Str} {m : List D → R D} {x : Str} {r : R (List D × DK)} {dvs : List V} {ds : List Value} {dds : List D} (Fn : FnG g.X.prog g.X.w g.X.K g.X.mg g.X.base (L2.CX g.X.prog g.X.w) bb k f fd ps (spD g.X.K g.C m)) (hbb : bb = true → g.b = true) (hr : Room k g.X.A)
    (hm : g.X.mg x = some (.ref f)) (hkp : PySem.W.keepIn g.X.K (.ref f) = true) (hb : Binds g.X.K fd ps ds) (hd : Vals dvs ds) (hdd : ∀ F, RpA g.X.K g.C F dvs dds) (ha : CAS g a (b :: es) Γ r) (hk : Γ[i]? = some (.k a s) := by rfl) (hg : Gl g.X x := by rfl) (hdb : (x == ("__debug__" : Str)) = false := by decide)
    (he : starEach (b :: es) g.X.env = (false, eval b g.X.env) :: starEach es g.X.env := by rfl) (hpl : (backTo pos (starEach es g.X.env)).any (·.1) = false := by rfl) :
    CES g a (.Call (.Name x p1) (b :: es) [] pos) Γ (bnd r fun xs t => m (xs ++ dds) >>= fun x => .ok (x, t)) := .mk fun F H σ Q E p =>
  wE_of (pe_callG Fn (fun z => g.gd (hbb z)) hr hg hm hkp hb hd g.ps (pa_w _ _) hdb he hpl) (ha F H σ _ E (p.seq (k := fun xs t => m (xs ++ dds) >>= fun x => .ok (x, t)) fun xs s1 vs F1 H1 g1 st1 r1 p1 =>
    ⟨F1, xs ++ dds, g1.fh, g.tabs (E.basS hk g1.x), RpA.append r1 (hdd F1), by
      cases q : m (xs ++ dds) with
      | ok z =>
        rw [q] at p1
        exact fun v F' H' gr rr => p1 v F' H' (GrS.of gr) (st1.gr gr) rr
      | ex c z =>
        rw [q] at p1
        exact fun cl dx F' H' gr er => p1 cl dx F' H' (GrX.of gr) er
      | un =>
        rw [q] at p1
        exact p1⟩))
/-- xs.index(e), xs a frozen list of ints -/
theorem ce_indexD (i : Nat) {n : Str} {xs : List D} {r : R D} (h : CE g e Γ r) (hi : Γ[i]? = some (.d (.lst xs)) := by rfl) (hN : g.X.N[i]? = some n := by rfl)
    (hv : Vis g.X.env.scope n := by first | exact Or.inl rfl | exact Or.inr (Or.inl rfl) | exact Or.inr (Or.inr rfl)) (hd : (n == ("__debug__" : Str)) = false := by decide) (hcd : (n == ("__classdict__" : Str)) = false := by decide)
    (hbase : attributeBase (.Name n p1) "index" g.X.env (eval (.Name n p1) g.X.env) = eval (.Name n p1) g.X.env := by rfl)
    (hfew : ((backTo p3 (starEach [e] g.X.env)).all (fun x => !x.1) && (backToKw p3 (keywordEach [] g.X.env)).all (fun x => x.1.isSome) && decide (([e] : List Expr).length + ([] : List Keyword).length + (if ([] : List Keyword).isEmpty then 0 else 1) < 30)) = true := by rfl)
    (hline : (p2.endLine == p3.line) = true := by rfl) (hst : starEach [e] g.X.env = [(false, eval e g.X.env)] := by rfl) :
    CE g (.Call (.Attribute (.Name n p1) "index" p2) [e] [] p3) Γ (r >>= fun y => .of (indexI xs y)) := .mk fun F H σ Q E p => by
  refine wE_of (pe_bm PySem.F.plainAttrs_list PySem.F.slot_list_index PySem.F.type_list_index mt_index (pe_var hN hv hd hcd) (pa_cons (pe_w _ e) pa_nil hst) hbase hfew hline (by rw [hst]; rfl) (by rfl)) ?_
  obtain ⟨o, h1, v0, rfl, rl⟩ := E.sl i _ hi
  cases rl with
  | lst hF ra =>
  rename_i a vs
  have hh := E.ef.at hF
  refine ⟨_, h1, .inl ⟨rfl, _, SqL.of hh⟩, ?_⟩
  refine h F H σ _ E (p.seq fun y v F1 H1 g1 r1 q1 => ?_)
  cases y <;> try (exact (show False from q1).elim)
  rename_i k
  obtain rfl := int_of r1
  have q2 : Post g (rD g.X.K g.C) F1 H1 σ Q (.of (intsD xs >>= fun ns => (ns.findIdx? fun n => decide (n = k)).map fun (j : Nat) => D.int j)) := q1
  clear q1
  cases e1 : intsD xs with
  | none =>
    rw [e1] at q2
    exact (show False from q2).elim
  | some ns =>
    rw [e1] at q2
    have e2 := ints_of e1
    subst e2
    have e3 := ra.ints
    subst e3
    cases e4 : ns.findIdx? fun n => decide (n = k) with
    | none =>
      have q3 : Post g (rD g.X.K g.C) F1 H1 σ Q (.of ((ns.findIdx? fun n => decide (n = k)).map fun (j : Nat) => D.int j)) := q2
      rw [e4] at q3
      exact (show False from q3).elim
    | some j =>
      have q3 : Post g (rD g.X.K g.C) F1 H1 σ Q (.of ((ns.findIdx? fun n => decide (n = k)).map fun (j : Nat) => D.int j)) := q2
      rw [e4] at q3
      obtain ⟨hj, hk, hlt⟩ := List.findIdx?_eq_some_iff_getElem.mp e4
      have hk' : ns[j] = k := of_decide_eq_true hk
      refine ⟨a, _, .int k, j, .int k, rfl, rfl, SqL.of (g1.h.at hh), rfl, flat_ints ns, ?_, ?_, fun m z hm hz => ?_, q3.here g1.fh (.int _)⟩
      · rw [List.getElem?_map, List.getElem?_eq_getElem hj, hk'] <;> rfl
      · show decide (k = k) = true
        exact decide_eq_true rfl
      · rw [List.getElem?_map, List.getElem?_eq_getElem (Nat.lt_trans hm hj)] at hz
        cases hz
        show decide (ns[m]'(Nat.lt_trans hm hj) = k) = false
        have := hlt m hm
        simpa using this
end
/-! ## set(x), x a text or a tuple of ints -/
inductive DU where
  | i (ns : List Int) | s (ks : List Str)
def rSetU (w : World) : Rep V DU := ⟨fun H0 F H v u => match u with
    | .i ns => (rSetI w).r H0 F H v ns
    | .s ks => (rSetX w).r H0 F H v ks, fun {H0 H1 F H b a} e h => by
  cases a with
  | i ns => exact (rSetI w).back e h
  | s ks => exact (rSetX w).back e h, fun {H0 F H F' H' b a} g h => by
  cases a with
  | i ns => exact (rSetI w).grow g h
  | s ks => exact (rSetX w).grow g h⟩
def D.setU : D → Option DU
  | .tup l => (DL.setOf l).map .i
  | .str x => (D.setX (.str x)).map .s
  | _ => none
section
variable {X : Cx} {C : Ctab}
theorem CallR.or {f : Value} {r1 r2 : List V → Hp → VK → Prop} (h1 : CallR X f r1) (h2 : CallR X f r2) : CallR X f (fun xs H Q => r1 xs H Q ∨ r2 xs H Q) := by
  exact fun pins s σ H xs us Q I r z => z.elim (h1 pins s σ H xs us Q I r) (h2 pins s σ H xs us Q I r)
theorem cd_setU (hc : X.calm = true) : CallD X (.type "set") (rD X.K C) (rSetU X.w) D.setU := by
  obtain ⟨r1, c1, h1⟩ := cd_setT (C := C) (X := X) hc
  obtain ⟨r2, c2, h2⟩ := cd_setX (C := C) (X := X) hc
  refine ⟨_, c1.or c2, fun F H H0 x dx Q e r1 p => ?_⟩
  cases dx <;> try (exact (show False from p).elim)
  · rename_i y
    refine .inr (h2 F H H0 x _ Q e r1 ?_)
    have p2 : PostV (rSetU X.w) F H Q ((D.setX (.str y)).map DU.s) := p
    cases q : D.setX (.str y) with
    | none => rw [q] at p2; exact p2
    | some z => rw [q] at p2; exact p2
  · rename_i l
    refine .inl (h1 F H H0 x _ Q e r1 ?_)
    have p2 : PostV (rSetU X.w) F H Q ((DL.setOf l).map DU.i) := p
    show PostV _ F H Q (DL.setOf l)
    cases q : DL.setOf l with
    | none => rw [q] at p2; exact p2
    | some z => rw [q] at p2; exact p2
def sortU : DU → Option (List D)
  | .i ns => sortSet ns
  | .s ks => sortSetX ks
theorem cd_sortU (hc : X.calm = true) : CallD X (.builtin "sorted") (rSetU X.w) (rN X.K C) sortU := by
  obtain ⟨r1, c1, h1⟩ := cd_sortSet (C := C) (X := X) hc
  obtain ⟨r2, c2, h2⟩ := cd_sortX (C := C) (X := X) hc
  refine ⟨_, c1.or c2, fun F H H0 x dx Q e r1 p => ?_⟩
  cases dx with
  | i ns => exact .inl (h1 F H H0 x ns Q e r1 p)
  | s ks => exact .inr (h2 F H H0 x ks Q e r1 p)
/-- is None, is not None -/
def D.isN (x y : D) : Option D := match y with
  | .non => some (.bl x.isNon)
  | _ => none
def D.isnotN (x y : D) : Option D := match y with
  | .non => some (.bl (!x.isNon))
  | _ => none
theorem od_isN : OpD X (compareOp .Is) (rR X.K C) (rD X.K C) (rD X.K C) D.isN := od_is
theorem od_isnotN : OpD X (compareOp .IsNot) (rR X.K C) (rD X.K C) (rD X.K C) D.isnotN := od_isnot
/-- e == e', data on both sides -/
theorem od_eqD (hu : X.A.units + 64 < cLine) : OpD X (compareOp .Eq) (rD X.K C) (rD X.K C) (rD X.K C) D.eq := by
  obtain ⟨r, h1, h2⟩ := od_eq (C := C) hu
  exact ⟨r, h1, fun F H H0 H1 x y dx dy Q e r1 r2 p => h2 F H H0 H1 x y dx dy Q e (Rp.mono e r1) (Rp.mono e r2) p⟩
theorem od_neD (hu : X.A.units + 64 < cLine) : OpD X (compareOp .NotEq) (rD X.K C) (rD X.K C) (rD X.K C) D.ne := by
  obtain ⟨r, h1, h2⟩ := od_ne (C := C) hu
  exact ⟨r, h1, fun F H H0 H1 x y dx dy Q e r1 r2 p => h2 F H H0 H1 x y dx dy Q e (Rp.mono e r1) (Rp.mono e r2) p⟩
end
/-- a < b <= c as a test -/
theorem ct_chain {g : G} {Γ : List Sl} {a b c : Expr} {pos : Pos} {op op' : CmpOp} {h h' : D → D → Option D} {ra rb rc : R D} (ho : OpD g.X (compareOp op) (rD g.X.K g.C) (rD g.X.K g.C) (rD g.X.K g.C) h) (ho' : OpD g.X (compareOp op') (rD g.X.K g.C) (rD g.X.K g.C) (rD g.X.K g.C) h') (ha : CE g a Γ ra) (hb : CE g b Γ rb) (hc : CE g c Γ rc)
    (hm : lastMarks [op, op'] [b, c] = false := by with_unfolding_all rfl) : CT g (.Compare a [op, op'] [b, c] pos) Γ ((ra >>= fun x => rb >>= fun y => R.of (h x y) >>= fun z => R.of z.asB >>= fun k => if k = true then (rc >>= fun w => R.of (h' y w)) else .ok (.bl false)) >>= fun x => R.of x.asB) := .mk fun F H σ Q E p => by
  obtain ⟨r, h1, h2⟩ := ho
  obtain ⟨r', h1', h2'⟩ := ho'
  refine wT_of (pt_chain h1 h1' (pe_w _ a) (pe_w _ b) (pe_w _ c) hm) ?_
  have p0 : Post g (rD g.X.K g.C) F H σ (fun v H1 => ∃ k, v = V.bl k ∧ Q k H1) (ra >>= fun x => rb >>= fun y => R.of (h x y) >>= fun z => R.of z.asB >>= fun k => if k = true then (rc >>= fun w => R.of (h' y w)) else .ok (.bl false)) := p.seq fun x v F1 H1 g1 r1 p1 => by
    cases x with
    | bl b =>
      cases r1 with
      | bl b => exact ⟨b, rfl, p1.here g1.fh rfl⟩
    | _ => exact (show False from p1).elim
  clear p
  refine ha F H σ _ E (p0.seq fun x v F1 H1 g1 r1 p1 => hb F1 H1 σ _ (E.grow g1) (p1.seq fun y u F2 H2 g2 r2 p2 => h2 F2 H2 H1 H1 v u x y _ g2.fh (Rp.mono g2.f r1) r2 ?_))
  cases q : h x y with
  | none =>
    rw [q] at p2
    exact p2
  | some z =>
    rw [q] at p2
    intro w F3 H3 g3 r3
    cases z <;> try (exact (show False from p2).elim)
    rename_i k
    cases r3
    refine ⟨k, rfl, ?_⟩
    have p3 : Post g (rD g.X.K g.C) F2 H2 σ (fun v H1 => ∃ k, v = V.bl k ∧ Q k H1) (if k = true then (rc >>= fun w => R.of (h' y w)) else .ok (.bl false)) := p2
    cases k with
    | true =>
      refine iteT (hc F3 H3 σ _ (((E.grow g1).grow g2).grow g3) ((p3.mono g3).seq fun w wv F4 H4 g4 r4 p4 => h2' F4 H4 H3 H3 u wv y w _ g4.fh ((Rp.mono g3.f r2).mono g4.f) r4 p4.ofV))
    | false => exact iteF ((p3.mono g3).here g3.fh (.bl false))
/-! ## an error's field, told by the class's name -/
def D.fldN (t : Str → Bool) : D → Option D
  | .exc c x => if t c = true then some x else none
  | _ => none
section
variable {g : G} {Γ : List Sl} {e : Expr} {pos : Pos}
theorem ce_fldN {f : Str} {t : Str → Bool} {r : R D} (h : CE g e Γ r) (ct : CtOk g.X.K g.C) (ht : ∀ c, t c = true → ∃ A, g.C.c c = some (A, f)) (hb : attributeBase e f g.X.env (eval e g.X.env) = eval e g.X.env := by rfl) : CE g (.Attribute e f pos) Γ (r >>= fun v => .of (v.fldN t)) := .mk fun F H σ Q E p => by
  refine ce_fld h ct hb F H σ Q E ?_
  cases r with
  | un => exact p
  | ex c x => exact p
  | ok v =>
    have p2 : Post g (rD g.X.K g.C) F H σ Q (.of (v.fldN t)) := p
    show Post g (rD g.X.K g.C) F H σ Q (.of (v.fld g.C f))
    cases v <;> try (exact (show False from p2).elim)
    rename_i c x
    have p3 : Post g (rD g.X.K g.C) F H σ Q (.of (if t c = true then some x else none)) := p2
    by_cases q : t c = true
    · rw [if_pos q] at p3
      obtain ⟨A, hA⟩ := ht c q
      have : (D.exc c x).fld g.C f = some x := by
        unfold D.fld
        dsimp only
        rw [hA]
        simp
      rw [this]
      exact p3
    · rw [if_neg q] at p3
      exact (show False from p3).elim
end
end DL
end
section
set_option Elab.async false
set_option linter.all false
set_option maxRecDepth 100000
set_option maxHeartbeats 4000000
set_option autoImplicit false
namespace DL
open PySem PySem.Spec PyProof.Rows L2
variable [TN]
section
variable {T S : Type} {g : G} {ζ : Ret T} {Γ : List Sl} {γ : S → List Sl} {e a b c : Expr} {pos p1 p2 p3 : Pos} {st : Stmt} {sts : List Stmt} {Dn : Ends}
/-- x, y = (a new list, a new list), by a tuple (names that inner scopes read) -/
theorem cb_parCN (i j : Nat) {n m : Str} {kt k2 : Nat} {tp tp2 : Pos} {ra rb : R (List D)} {k : List D → List D → R (Fl T S)} (ha : CN g a Γ ra) (hb : CN g b Γ rb) (h2 : ∀ x y, CB g ζ γ sts ((Γ.set i (.l x)).set j (.l y)) (k x y)) (hc : g.X.calm = true)
    (nd : g.X.N.Nodup) (hN : g.X.N[i]? = some n := by rfl) (hx : Loc g.X.env.scope n := by first | exact Or.inl rfl | exact Or.inr rfl) (hf : g.X.fn n = true ∨ g.X.env.scope.names.lookup n = some .local := by first | exact .inl rfl | exact .inr rfl)
    (hj : g.X.N[j]? = some m := by rfl) (hy : Loc g.X.env.scope m := by first | exact Or.inl rfl | exact Or.inr rfl) (hf2 : g.X.fn m = true ∨ g.X.env.scope.names.lookup m = some .local := by first | exact .inl rfl | exact .inr rfl)
    (s1 : (assignEach [.Name n p1, .Name m p2] g.X.env).map (·.2) = assign (.Name n p1) g.X.env :: (assignEach [.Name m p2] g.X.env).map (·.2) := by rfl) (s2 : (assignEach [.Name m p2] g.X.env).map (·.2) = assign (.Name m p2) g.X.env :: (assignEach [] g.X.env).map (·.2) := by rfl)
    (hn : (assignEach [.Name n p1, .Name m p2] g.X.env).length = 2 := by rfl) (hst : (assignEach [.Name n p1, .Name m p2] g.X.env).findIdx? (·.1) = none := by rfl)
    (hs1 : swapsWithSole [.Tuple [.Name n p1, .Name m p2] kt tp] (.Tuple [a, b] k2 tp2) pos.line g.X.env = pure false := by rfl) (hs2 : swappedStores [.Tuple [.Name n p1, .Name m p2] kt tp] (.Tuple [a, b] k2 tp2) g.X.env = pure none := by rfl) (hs3 : (assignEach [.Tuple [.Name n p1, .Name m p2] kt tp] g.X.env).map (·.2) = [assign (.Tuple [.Name n p1, .Name m p2] kt tp) g.X.env] := by rfl)
    (t1 : starEach [a, b] g.X.env = (false, eval a g.X.env) :: starEach [b] g.X.env := by rfl) (t2 : starEach [b] g.X.env = [(false, eval b g.X.env)] := by rfl) :
    CB g ζ γ (.Assign [.Tuple [.Name n p1, .Name m p2] kt tp] (.Tuple [a, b] k2 tp2) pos :: sts) Γ (ra >>= fun x => rb >>= fun y => k x y) := .mk fun F H σ Dn E p => by
  refine wB_of (pss_cons (ps_asg (pe_tup (pa_cons (pe_w _ a) (pa_cons (pe_w _ b) pa_nil t2) t1)) (pg_tup hc (pgs_cons (pg_name nd hN hx hf) (pgs_cons (pg_name nd hj hy hf2) pgs_nil s2) s1) hn hst) hs1 hs2 hs3) (pss_w _ sts)) ?_
  refine ha F H σ _ E (p.expr E fun x v F1 H1 g1 r1 E1 p' => hb F1 H1 σ _ E1 (p'.expr E1 fun y w F2 H2 g2 r2 E2 p2 => ?_))
  refine ⟨by show 2 ≤ _; decide, fun tq hq => ?_⟩
  have g3 : Gr F2 H2 F2 (upd H2 tq (.tup [v, w])) := Gr.own g2.fh hq
  have E3 := E2.grow g3
  have r1' := (rN g.X.K g.C).grow g3 ((rN g.X.K g.C).grow g2 r1)
  have r2' := (rN g.X.K g.C).grow g3 r2
  obtain ⟨q, vs, rfl, h0, hf, hh, rv⟩ := r1'
  obtain ⟨q', ws, rfl, h0', hf', hh', rw'⟩ := r2'
  have at1 : ∃ o, H1 q = some o := by
    obtain ⟨q9, vs9, e9, _, _, h9, _⟩ := r1
    cases e9
    exact ⟨_, h9⟩
  have ne0 : q ≠ q' := fun z => by
    obtain ⟨o, e9⟩ := at1
    rw [z, h0'] at e9
    cases e9
  have sa : SlOk g.X.K g.C g.B F2 (upd H2 tq (.tup [.ref q, .ref q'])) (some (.ref q)) (.l x) := ⟨q, vs, rfl, E2.eb.back' h0 E.eb, hf, hh, rv⟩
  have sb : SlOk g.X.K g.C g.B F2 (upd H2 tq (.tup [.ref q, .ref q'])) (some (.ref q')) (.l y) := ⟨q', ws, rfl, E2.eb.back' h0' E1.eb, hf', hh', rw'⟩
  refine ⟨_, _, rfl, SqT.of upd_same, rfl, _, _, rfl, _, _, rfl, rfl, h2 x y F2 _ _ Dn (EnvOk.set_own (EnvOk.set_own E3 i sa fun j t _ e ow hs => ?_) j sb fun l t nl e ow hs => ?_) p2⟩
  · obtain ⟨⟨o, q1, _⟩, _⟩ := EnvOk.own_at E e ow hs
    rw [h0] at q1
    cases q1
  · by_cases e1 : i = l
    · subst e1
      have e2 : (σ.set i (some (.ref q)))[i]? = some (some (.ref q')) := hs
      rw [List.getElem?_set_self'] at e2
      cases e3 : σ[i]? with
      | none =>
        rw [e3] at e2
        cases e2
      | some z =>
        rw [e3] at e2
        cases e2
        exact ne0 rfl
    · rw [List.getElem?_set_ne e1] at e hs
      obtain ⟨⟨o, q1, _⟩, _⟩ := EnvOk.own_at E1 e ow hs
      rw [h0'] at q1
      cases q1
end
end DL
end
section
set_option Elab.async false
set_option linter.all false
set_option maxRecDepth 100000
set_option maxHeartbeats 4000000
set_option autoImplicit false
namespace DL
open PySem PySem.Spec PyProof.Rows L2 LamX

/-! ## a law's end: the first heap -/
open Classical in
/-- what may be tracked at first: the tables, and the script's list if it is none of the ground's -/
noncomputable def H0 (K : PySem.W.Frag) (tt : List Addr) (a : Addr) (o : Obj) (xs : List V) : Hp := fun b =>
  if b ∈ tt then some (.tbl #[]) else if b = a ∧ K.lookup a = none then some (.frz o (.lst xs)) else none
section
variable {K : PySem.W.Frag} {tt : List Addr} {a b : Addr} {o : Obj} {xs : List V} {u : HO}
theorem H0_tab (h : b ∈ tt) : H0 K tt a o xs b = some (.tbl #[]) := if_pos h
theorem H0_some (h : H0 K tt a o xs b = some u) : (b ∈ tt ∧ u = .tbl #[]) ∨ (b ∉ tt ∧ b = a ∧ K.lookup a = none ∧ u = .frz o (.lst xs)) := by
  unfold H0 at h
  split at h
  · rename_i m
    exact .inl ⟨m, (Option.some.inj h).symm⟩
  · rename_i m
    split at h
    · rename_i q
      exact .inr ⟨m, q.1, q.2, (Option.some.inj h).symm⟩
    · cases h
theorem H0_list (h : a ∉ tt) (k : K.lookup a = none) : H0 K tt a o xs a = some (.frz o (.lst xs)) := (if_neg h).trans (if_pos ⟨rfl, k⟩)
end
section
variable {P : Program} {w : World} {K : PySem.W.Frag} {mg mb : Str → Option Value} {CX : CXT} {bb : Bool} {k : Nat} {fa a : Addr} {T : List (Addr × Addr)} {fd : FuncData} {x : Str} {sp : Sp} {s : Shared} {vs : List Value} {ns : List Int}
theorem law_goG (inK : K.In s.heap) (glob : s.heap.Ns mainGlobals mg) (blt : s.heap.Ns builtinsNs mb) (boot : ∀ x : Str, x ≠ "__name__" → mb x = bootBuiltins x) (lim0 : s.heap.NoLimit) (gens : s.gens = #[])
    (tab : ∀ p ∈ T, s.heap.get? p.2 = some { cls := .none, data := .fields #[] }) (far : ∀ p ∈ T, K.lookup p.2 = none) (code : ∀ p ∈ T, PySem.W.CodeHd s.heap p.1 p.2)
    (main : ∃ (bm : Addr) (ob : Obj), mg "__builtins__" = some (.ref bm) ∧ bm ≠ builtinsNs ∧ s.heap.get? bm = some ob ∧ ob.cls = .type "module" ∧ ob.dict = some builtinsNs ∧ ob.data = .plain)
    (lst : s.heap.get? a = some { cls := .type "list", data := .seq vs.toArray }) (intsA : IntsAre vs ns) (small : ns.length ≤ sizeLine) (room : Room k callerA)
    (fn : ∀ base : Heap, K.In base → base.Ns mainGlobals mg → (∀ p ∈ T, TabB base mg p.1 p.2) → FnG P w K mg base CX bb k fa fd [x] sp) (bind : ∀ (s : Shared) (u : Value), BindsTo s fd ⟨[u], []⟩ [(x, u)])
    (ask : ∀ H : Hp, (∀ p ∈ T, H p.2 = some (.tbl #[])) → SqL K H a (ns.map V.int) → sp [.ref a] H (fun v _ => v = .bl true) fun _ _ _ => False)
    (none0 : ∀ H e s', CX [] H s (fun _ _ _ => False) e s' → False) :
    codeAny (model P w) callerA (.call (.ref fa) ⟨[.ref a], []⟩) (fun r s' => r = .ok (.ret (.bool true)) ∧ OldK s.heap s'.heap ∧ s'.os = s.os ∧ AllBare s'.gens) s := by
  have rel : Vals (ns.map V.int) vs := vals_ints intsA
  have len := intsA.length
  let o : Obj := { cls := .type "list", data := .seq vs.toArray }
  let tt : List Addr := T.map (·.2)
  let H : Hp := H0 K tt a o (ns.map V.int)
  have inT : ∀ p ∈ T, p.2 ∈ tt := fun p hp => List.mem_map.mpr ⟨p, hp, rfl⟩
  have atT : ∀ b ∈ tt, s.heap.get? b = some { cls := .none, data := .fields #[] } := fun b hb => by
    obtain ⟨p, hp, rfl⟩ := List.mem_map.mp hb
    exact tab p hp
  have farT : ∀ b ∈ tt, K.lookup b = none := fun b hb => by
    obtain ⟨p, hp, rfl⟩ := List.mem_map.mp hb
    exact far p hp
  have aT : a ∉ tt := fun z => by
    have q := (atT a z).symm.trans lst
    have q' : Data.fields #[] = Data.seq vs.toArray 0 := congrArg Obj.data (Option.some.inj q)
    cases q'
  -- what is no list and no table is not tracked
  have free : ∀ {b : Addr} {u : Obj}, s.heap.get? b = some u → (∀ ws n, u.data ≠ .seq ws n) → u.data ≠ .fields #[] → H b = none := fun {b u} e h1 h2 => by
    cases q : H b with
    | none => rfl
    | some v =>
      rcases H0_some q with ⟨m, _⟩ | ⟨_, rfl, _⟩
      · have e2 := (atT b m).symm.trans e
        cases e2
        exact absurd rfl h2
      · have e2 := lst.symm.trans e
        cases e2
        exact absurd rfl (h1 _ _)
  have freeD : ∀ {b : Addr} {u : Obj} {es : Array DictEntry} {ep : Nat}, s.heap.get? b = some u → u.data = .dict es ep → H b = none := fun {b u es ep} e d =>
    free e (fun ws n z => by rw [d] at z; cases z) (fun z => by rw [d] at z; cases z)
  have low : ∀ {b : Addr} {m : Str → Option Value}, s.heap.Ns b m → (hidT s.heap H).Ns b m := fun {b m} ⟨u, es, ep, e, d, r⟩ => ⟨u, es, ep, hidT_get e (freeD e d), d, r⟩
  have inB : K.In (hidT s.heap H) := fun b u e => hidT_get (inK b u e) (by
    cases q : H b with
    | none => rfl
    | some v =>
      rcases H0_some q with ⟨m, _⟩ | ⟨_, rfl, n, _⟩
      · rw [farT b m] at e
        cases e
      · rw [n] at e
        cases e)
  have mod : L2.Mod K mg (hidT s.heap H) := ⟨inB, low glob, ⟨mb, low blt, boot⟩, by
    obtain ⟨mc, h1, h2⟩ := lim0
    exact ⟨mc, low h1, h2⟩⟩
  have ok : HOk P w H s.heap := fun b u q => by
    rcases H0_some q with ⟨m, rfl⟩ | ⟨_, rfl, _, rfl⟩
    · exact atT b m
    · exact ⟨lst, by rw [List.length_map]; exact small, vs, _, rel, lst⟩
  have sq : SqL K H a (ns.map V.int) := by
    cases q : K.lookup a with
    | none => exact .inl (.inr ⟨o, H0_list aT q⟩)
    | some u =>
      have e := (inK a u q).symm.trans lst
      cases e
      exact .inr ⟨_, vs.toArray, _, q, rfl, rfl, rfl, by rw [List.size_toArray, len]; exact small, by simpa using rel⟩
  have tabB : ∀ p ∈ T, TabB (hidT s.heap H) mg p.1 p.2 := fun p hp => by
    refine ⟨?_, ?_, fun z => ?_⟩
    · obtain ⟨u, us, file, tf, flags, tg, inF, text, tt2, e1, r1, r2, r3, r⟩ := code p hp
      refine ⟨u, us, file, tf, flags, tg, inF, text, tt2, hidT_get e1 (free e1 (fun ws n z => ?_) fun z => ?_), r1, r2, r3, r⟩
      · rw [r2] at z
        cases z
      · rw [r2] at z
        cases z
        simp at r3
    · obtain ⟨bm, ob, b1, b2, b3, b4, b5, b6⟩ := main
      refine ⟨bm, ob, b1, b2, fun q => ?_, fun q => ?_, hidT_get b3 (free b3 (fun ws n z => ?_) fun z => ?_), b4, b5, b6⟩
      · obtain ⟨u, es, ep, e, hd, _⟩ := glob
        rw [q, e] at b3
        cases b3
        rw [hd] at b6
        cases b6
      · rw [q, tab p hp] at b3
        cases b3
        cases b6
      · rw [b6] at z
        cases z
      · rw [b6] at z
        cases z
    · obtain ⟨u, es, ep, e, hd, _⟩ := glob
      rw [z, tab p hp] at e
      cases e
      cases hd
  have e0 : Env0 P w K mg (hidT s.heap H) callerA [] s H := ⟨rfl, mod, fun b u e => of_hidT e, Nat.le_of_eq (hidT_size _ _), trivial, fun b hb => absurd (show b ∈ ([] : List Addr) from hb) List.not_mem_nil, ok, .of_eq gens⟩
  have run := (fn _ inB (low glob) tabB).go callerA [] s H ⟨[.ref a], []⟩ [.ref a] [.ref a] _ _ (fun _ => rfl) room e0 (bind s (.ref a)) (.cons rfl .nil) (ask H (fun p hp => H0_tab (inT p hp)) sq)
  refine codeAny_mono run fun r s' h => ?_
  match r, h with
  | .error e, h => exact (none0 H e s' h).elim
  | .ok .next, h => exact False.elim h
  | .ok .brk, h => exact False.elim h
  | .ok .cont, h => exact False.elim h
  | .ok (.ret u), ⟨v, H', os, bare, un, ok', rv, q⟩ =>
    have q' : v = .bl true := q
    subst q'
    obtain rfl : u = Value.bool true := rv
    have kept : ∀ b u, b ∉ tt → s.heap.get? b = some u → s'.heap.get? b = some u := fun b u nb e => by
      cases q : H b with
      | none => exact un.keep b u e q (fun z => absurd (show b ∈ ([] : List Addr) from z) List.not_mem_nil) (by simp)
      | some v =>
        rcases H0_some q with ⟨m, _⟩ | ⟨_, rfl, _, rfl⟩
        · exact absurd m nb
        · obtain ⟨e1, _⟩ := ok b _ q
          obtain ⟨e2, _⟩ := ok' b _ (un.frzs b o _ q)
          rw [e] at e1
          cases e1
          exact e2
    have more : ∀ p ∈ T, ∃ es : Array Value, s'.heap.get? p.2 = some { cls := .none, data := .fields es } := fun p hp => by
      obtain ⟨es, z⟩ := un.tbls p.2 #[] (H0_tab (inT p hp))
      exact ⟨_, ok' p.2 _ z⟩
    refine ⟨rfl, ⟨fun b u e => ?_, fun b u e => ?_⟩, os, bare⟩
    · by_cases m : b ∈ tt
      · obtain ⟨p, hp, rfl⟩ := List.mem_map.mp m
        obtain ⟨es, h1⟩ := more p hp
        have e2 := (tab p hp).symm.trans e
        cases e2
        exact .inr (.inl ⟨((code p hp).tab (tab p hp)).isCodeTable, rfl, #[], es, rfl, by rw [Array.empty_append]; exact h1⟩)
      · exact .inl (kept b u m e)
    · by_cases m : b ∈ tt
      · obtain ⟨p, hp, rfl⟩ := List.mem_map.mp m
        obtain ⟨es, h1⟩ := more p hp
        exact ⟨_, h1⟩
      · exact ⟨u, kept b u m e⟩
end
/-- what is known of the law's def at the head's heap h -/
def LawG (l : PySem.W.OpenLaw) (w : World) (CX : CXT) (k n : Nat) (x : Str) (mg : Str → Option Value) (fa : Addr) (h : Heap) : Prop :=
  ∃ (K : PySem.W.Frag) (bb : Bool) (fd : FuncData) (T : List (Addr × Addr)) (sp : Sp), K.In h ∧ (∀ p ∈ T, h.get? p.2 = some { cls := .none, data := .fields #[] }) ∧ (∀ p ∈ T, K.lookup p.2 = none) ∧ (∀ p ∈ T, PySem.W.CodeHd h p.1 p.2) ∧
    (∀ (s : Shared) (u : Value), BindsTo s fd ⟨[u], []⟩ [(x, u)]) ∧
    (∀ (H : Hp) (a : Addr) (ns : List Int), ns.length ≤ n → (∀ z ∈ ns, Builtin.Int.intBits z ≤ 1048576) → (∀ p ∈ T, H p.2 = some (.tbl #[])) → SqL K H a (ns.map V.int) → sp [.ref a] H (fun v _ => v = .bl true) fun _ _ _ => False) ∧
    ∀ base : Heap, K.In base → base.Ns mainGlobals mg → (∀ p ∈ T, TabB base mg p.1 p.2) → FnG l.prog w K mg base CX bb k fa fd [x] sp
theorem walk_G {l : PySem.W.OpenLaw} {n k : Nat} {q : Program} {loose : List Str} {XP : (Str → Option Value) → Heap → Prop} {YP : World → Heap → Prop} {d : DefRec} {CX : World → CXT} {x : Str}
    (most : l.most = some n) (small : n ≤ sizeLine) (nodef : d.params.defaults = []) (room : Room k callerA)
    (law : ∀ (w : World) (mg : Str → Option Value) (fa : Addr) (h : Heap), YP w h → h.Ns mainGlobals mg → mg d.name = some (.ref fa) → LawG l w (CX w) k n x mg fa h)
    (none0 : ∀ (w : World) (H : Hp) (s : Shared) (e : Value) (s' : Shared), CX w [] H s (fun _ _ _ => False) e s' → False) :
    PySem.W.WalkO q loose XP YP l.row.toRowW d [] (fun f vs => PySem.call f vs) := by
  refine Att.attach_callB most nodef fun w s0 s1 mg mb fa o pm cd doc a vs ns gr y ho hd hcd at0 obj0 ints0 len0 bits0 gens0 => ?_
  obtain ⟨K, bb, fd, T, sp, inK, tab, far, code, bind, ask, fn⟩ := law w mg fa _ y gr.T.g at0
  exact law_goG inK gr.T.g gr.T.b gr.T.builtins gr.T.nolimit gens0 tab far code gr.T.bmain obj0 ints0 (Nat.le_trans len0 small) room fn bind (fun H hH sq => ask H a ns len0 bits0 hH sq) fun H e s' => none0 w H s1 e s'
end DL
end
section
set_option Elab.async false
set_option linter.all false
set_option maxRecDepth 100000
set_option maxHeartbeats 4000000
set_option autoImplicit false
namespace DL
open PySem PySem.Spec PyProof.Rows L2
section
variable [TN]
/-! ## the law's def: its parameter a list that is read only -/
def spQ (K : PySem.W.Frag) (C : Ctab) (m : List D → R D) : Sp := fun vs H Q E => ∃ F a ws xs, Ex F H ∧ LamX.Tabs TN.T H ∧ vs = [V.ref a] ∧ SqL K F a ws ∧ RpA K C F ws xs ∧ PostD K C F H Q E (m xs)
theorem start_envQ {K : PySem.W.Frag} {C : Ctab} {F H : Hp} {N : List Str} {a : Addr} {ws : List V} {xs : List D} (e : Ex F H) (h : SqL K F a ws) (r : RpA K C F ws xs) (hl : 1 ≤ N.length) : EnvOk K C H F F H (start N [V.ref a]) (.q xs :: List.replicate (N.length - 1) Sl.no) := by
  refine ⟨⟨Ex.refl _, Ex.refl _, e, fun _ _ h1 h2 => h2, TX.refl _⟩, by simp [L2.start], fun i t h1 => ?_, fun i j t u b n e1 e2 o1 o2 _ _ => ?_⟩
  · cases i with
    | zero =>
      cases h1
      exact ⟨some (.ref a), rfl, a, ws, rfl, h, r⟩
    | succ i =>
      have h' : (List.replicate (N.length - 1) Sl.no)[i]? = some t := h1
      rw [List.getElem?_replicate] at h'
      split at h'
      · rename_i hi
        cases h'
        refine ⟨none, ?_, trivial⟩
        show (List.replicate (N.length - 1) none)[i]? = _
        rw [List.getElem?_replicate, if_pos hi]
      · cases h'
  · cases i with
    | zero =>
      cases e1
      exact absurd (show false = true from o1) Bool.false_ne_true
    | succ i =>
      have h' : (List.replicate (N.length - 1) Sl.no)[i]? = some t := e1
      rw [List.getElem?_replicate] at h'
      split at h'
      · cases h'
        exact absurd (show false = true from o1) Bool.false_ne_true
      · cases h'
variable {P : Program} {w : World} {K : PySem.W.Frag} {mg : Str → Option Value} {base : Heap} {bb : Bool}
theorem fnQ {x qual a1 : Str} {params : Arguments} {bd : List Stmt} {scope : Scope} {dvs : List V} {kws : List (Str × V)} {f : Addr} {fd : FuncData} {N : List Str} {k : Nat} {C : Ctab} {m : List D → R D} {mb : List D → R (Fl D Unit)} (em : ∀ xs, m xs = fin (mb xs)) (Fn : FunD K x qual params bd scope dvs kws f fd) (S : FnScope N [a1] scope) (hN : ([a1] : List Str).length ≤ N.length)
    (body : ∀ (cdv : Value) (A : Around) (outer : List PySem.Env) (s : Shared) (H : Hp) (E : XK) (F0 : Hp) (gd : bb = true → A.guards = some []) (hcd : CodeAt K f cdv) (hT : LamX.Tabs TN.T H), Room k (gOf P w K mg base C N qual scope f cdv A outer s H E F0 gd hT).X.A → ∀ xs : List D,
      CB (gOf P w K mg base C N qual scope f cdv A outer s H E F0 gd hT) (ζD K C) (fun _ : Unit => List.replicate N.length Sl.no) bd (.q xs :: List.replicate (N.length - 1) Sl.no) (mb xs)) :
    FnG P w K mg base (L2.CX P w) bb (k + 1) f fd [a1] (spQ K C m) := by
  obtain ⟨oc, od, dV, kV, doc, pm, an, cdv, ct, osl, rfl, lk, hcd, _, _⟩ := Fn.ex
  refine fnG_of lk hcd S (fun vs H Q E h => by
    obtain ⟨F, a, ws, xs, _, _, rfl, _⟩ := h
    rfl) fun A outer s H vs Q E gd hr h => ?_
  obtain ⟨F, a, ws, xs, e, hT, rfl, h1, r, p⟩ := h
  refine ⟨_, pss_w _ _, body cdv A outer s H E F gd ⟨_, _, _, _, lk, rfl, _, hcd⟩ hT hr xs F H _ _ (start_envQ e h1 r hN) ?_⟩
  rw [em] at p
  have fin0 : ∀ {F' H' : Hp}, Bas H F F' H' → Gr F H F' H' := fun b => ⟨b.e0, b.eb, b.ef, fun a o h1 h2 => b.fr a o h1 h2, b.tb⟩
  generalize mb xs = rr at p
  cases rr with
  | ok fl =>
    cases fl with
    | nx u => exact fun σ' F' H' x E' => p _ F' H' (fin0 E'.toBas) .non
    | rt d => exact fun v F' H' b rv => p v F' H' (fin0 b) rv
  | ex c z => exact fun cl dx σ' F' H' b er => p cl dx F' H' (fin0 b) er
  | un => exact p
/-- what is asked of the law's def -/
theorem askQ {C : Ctab} {m : List D → R D} {T : List (Addr × Addr)} {n : Nat} (hT : ∀ p ∈ TN.T, ∃ q ∈ T, q.2 = p.1) (law : ∀ ns : List Int, ns.length ≤ n → (∀ z ∈ ns, Builtin.Int.intBits z ≤ 1048576) → m (ns.map D.int) = .ok (.bl true)) :
    ∀ (H : Hp) (a : Addr) (ns : List Int), ns.length ≤ n → (∀ z ∈ ns, Builtin.Int.intBits z ≤ 1048576) → (∀ p ∈ T, H p.2 = some (.tbl #[])) → SqL K H a (ns.map V.int) → spQ K C m [.ref a] H (fun v _ => v = .bl true) fun _ _ _ => False := fun H a ns h1 h2 h3 h4 => by
  refine ⟨H, a, ns.map V.int, ns.map D.int, Ex.refl _, fun p hp => ?_, rfl, h4, RpA.of_ints ns, ?_⟩
  · obtain ⟨q, hq, e⟩ := hT p hp
    rw [← e]
    refine ⟨#[], h3 q hq, ?_, ?_⟩
    · first | trivial | exact LamX.triples_nil | decide | simp
    · intro pos cv hc
      first | cases hc | (simp at hc)
  · rw [law ns h1 h2]
    intro v F' H' _ r
    cases r
    rfl
end
end DL
end
section
set_option Elab.async false
set_option linter.all false
set_option maxRecDepth 100000
set_option maxHeartbeats 4000000
set_option autoImplicit false
namespace DL
open PySem PySem.Spec PyProof.Rows L2
/-! ## facts of own error classes, as Bools of the frozen part -/
def oexB (K : PySem.W.Frag) (C : Addr) : Bool := (match K.lookup C with
  | some ⟨.type "type", _, .cls cd, sl⟩ => (match cd.mro, sl.toList with
    | .ref C' :: bm, [_, _, _, _, some (.builtin n), _] => C' == C && n == "ValueError.__new__" && !cd.hasDel && cd.hasDict && PySem.HandSPX.refsVE bm
    | _, _ => false)
  | _ => false) && (decide (PySem.W.findIn K (.ref C) "__setattr__" = some (some (.builtin "object.__setattr__"))) && (decide (PySem.W.subIn K (.ref C) (.type "BaseException") = some true) && (decide (PySem.W.typeIn K (.ref C) = some (.type "type")) && PySem.W.keepIn K (.ref C))))
theorem oexB_ok {K : PySem.W.Frag} {C : Addr} (h : oexB K C = true) : OexC K C := by
  unfold oexB at h
  obtain ⟨q, h⟩ := Bool.and_eq_true_iff.mp h
  obtain ⟨h2, h⟩ := Bool.and_eq_true_iff.mp h
  obtain ⟨h3, h⟩ := Bool.and_eq_true_iff.mp h
  obtain ⟨h4, h5⟩ := Bool.and_eq_true_iff.mp h
  refine ⟨?_, of_decide_eq_true h2, of_decide_eq_true h3, of_decide_eq_true h4, h5⟩
  split at q
  · rename_i dd cd sl ho
    split at q
    · rename_i C' bm k0 k1 k2 k3 n k5 hm hs
      simp only [Bool.and_eq_true, beq_iff_eq, Bool.not_eq_true'] at q
      obtain ⟨⟨⟨⟨rfl, rfl⟩, hdel⟩, hdct⟩, ht⟩ := q
      obtain ⟨nm, bs, mro, ns, qn, hd, sn, sub, ab, col, del⟩ := cd
      dsimp only at hm hdel hdct
      subst hm hdel hdct
      have hsl : sl = #[k0, k1, k2, k3, some (.builtin "ValueError.__new__"), k5] := by
        obtain ⟨l⟩ := sl
        simp only at hs
        rw [hs]
      subst hsl
      exact ⟨nm, qn, ns, bs, bm, sn, sub, ab, col, dd, k0, k1, k2, k3, k5, ho, ht⟩
    · cases q
  · cases q
def excB (K : PySem.W.Frag) (D : Addr) : Bool :=
  decide (PySem.W.findIn K (.ref D) "__getattribute__" = some (some (.builtin "BaseException.__getattribute__"))) && (decide (PySem.W.findIn K (.ref D) "__getattr__" = some none) && (decide (PySem.W.subIn K (.ref D) (.type "BaseException") = some true) && (PySem.W.hasDictIn K D &&
  (decide (PySem.W.findIn K (.ref D) "__class__" = some (some (.builtin "object.__class__"))) && (decide (PySem.W.specialIn K (.builtin "object.__class__") "__get__" = some (some (.builtin "getset_descriptor.__get__"))) && (decide (PySem.W.takesIn K (.builtin "object.__class__") = some true) && decide (PySem.W.mroIn K D (.type "object") = some true)))))))
theorem excB_ok {K : PySem.W.Frag} {D : Addr} (h : excB K D = true) : ExcC K D := by
  unfold excB at h
  simp only [Bool.and_eq_true, decide_eq_true_eq] at h
  obtain ⟨h1, h2, h3, h4, h5, h6, h7, h8⟩ := h
  exact ⟨h1, h2, h3, h4, h5, h6, h7, h8⟩
/-- A an own error class over B, which keeps f; I its __init__ -/
def erB (K : PySem.W.Frag) (A B I : Addr) (f : Str) : Bool :=
  oexB K A && (xfB K A && (excB K A && (decide (PySem.W.findIn K (.ref A) f = some none) && (decide (PySem.W.findIn K (.ref A) "__init__" = some (some (.ref I))) && (decide (PySem.W.typeIn K (.ref I) = some (.type "function")) &&
  (decide (PySem.W.specialIn K (.ref B) "__getattribute__" = some (some (.builtin "type.__getattribute__"))) && (PySem.W.readsIn K B (.type "type") &&
  (match PySem.W.findCls K (.ref B) (.type "type") "__init__" with
    | some (.val (.builtin n)) => decide (n = "ValueError.__init__")
    | _ => false))))))))
theorem erB_ok {K : PySem.W.Frag} {mg : Str → Option Value} {A B I : Addr} {x b f : Str} (h : erB K A B I f = true) (gA : mg x = some (.ref A)) (gB : mg b = some (.ref B)) : ErT K mg x b f A B I ∧ ErC K A f := by
  unfold erB at h
  simp only [Bool.and_eq_true, decide_eq_true_eq] at h
  obtain ⟨h1, h2, h3, h4, h5, h6, h7, h8, h9⟩ := h
  refine ⟨⟨gA, gB, oexB_ok h1, xfB_ok h2, h4, h5, h6, h7, h8, ?_⟩, xfB_ok h2, h4, excB_ok h3⟩
  split at h9
  · rename_i n e
    rw [e, of_decide_eq_true h9]
  · cases h9
def kitB (K : PySem.W.Frag) (A : Addr) (c : Value) (b : Bool) : Bool := decide (PySem.W.kitOne K (.ref A) c = some b)
def exmB (K : PySem.W.Frag) (A : Addr) (c : Value) (b : Bool) : Bool := decide (PySem.W.exmOne K (.ref A) c = some b)
/-- a def's code object -/
theorem code_at {K : PySem.W.Frag} {p : Str × Option Str} {x qual : Str} {params : Arguments} {body : List Stmt} {scope : Scope} {dvs : List V} {kws : List (Str × V)} {fd : FuncData} (F : FunD K x qual params body scope dvs kws (He.fAd K p) fd) : CodeAt K (He.fAd K p) (.ref (He.codeOf K p)) := by
  obtain ⟨oc, od, dV, kV, doc, pm, an, cdv, ct, osl, rfl, lk, hcd, _, _⟩ := F.ex
  obtain ⟨c, rfl⟩ := He.codeIn_ref hcd
  have e := He.codeOf_eq (p := p) lk rfl
  exact ⟨oc, od, osl, _, lk, by rw [e], qual, by rw [e]; exact hcd⟩
theorem funD_eq {K : PySem.W.Frag} {x qual : Str} {params : Arguments} {body : List Stmt} {scope : Scope} {dvs : List V} {kws : List (Str × V)} {f : Addr} {fd : FuncData} (F : FunD K x qual params body scope dvs kws f fd) : ∃ (dV kV doc pm : Value) (an : Option Addr) (cdv ct : Value), fd = PySem.W.fnOf x qual params body scope dV kV doc pm an cdv ct := by
  obtain ⟨oc, od, dV, kV, doc, pm, an, cdv, ct, osl, e, _⟩ := F.ex
  exact ⟨dV, kV, doc, pm, an, cdv, ct, e⟩
/-! ## the head's facts: what the names reach, and the interpreter's own statics -/
open He in
def asZ (g : Addr → Option Obj) (n : Nat) : List Addr := asD g n ++ [cStatics]
open He in
def obsZ (n : Nat) (fa : List Fa) (fn : List DefD) (ts : List Tab) (tf : List Defn) (ex : PySem.W.Frag → Bool) (g : Addr → Option Obj) : AlX := (obsT fa fn ts (frT g (asZ g n)), ex (frT g (asZ g n)) && tabsB g tf (frT g (asZ g n)))
open He in
theorem saysZ_of {n : Nat} {fa : List Fa} {fn : List DefD} {ts : List Tab} {tf : List Defn} {ex : PySem.W.Frag → Bool} {w : World} {h : Heap} (e : obsZ n fa fn ts tf ex h.get? = valX fn ts w) : SaysX fa fn ts tf ex w h (frT h.get? (asZ h.get? n)) := by
  have e1 : obsT fa fn ts (frT h.get? (asZ h.get? n)) = valT fn ts w := congrArg (fun z : AlX => z.1) e
  have e2 : (ex (frT h.get? (asZ h.get? n)) && tabsB h.get? tf (frT h.get? (asZ h.get? n))) = true := congrArg (fun z : AlX => z.2) e
  obtain ⟨h1, h2⟩ := He.ba e2
  have key : ∀ p ∈ tf, PySem.W.codeHdIn (frT h.get? (asZ h.get? n)) (cT (frT h.get? (asZ h.get? n)) p).1 (cT (frT h.get? (asZ h.get? n)) p).2 = true ∧ ∃ o, h.get? (cT (frT h.get? (asZ h.get? n)) p).2 = some o ∧ emptyTab o = true := fun p hp => by
    obtain ⟨h3, h4⟩ := He.ba (List.all_eq_true.mp h2 p hp)
    refine ⟨h3, ?_⟩
    cases q : h.get? (cT (frT h.get? (asZ h.get? n)) p).2 with
    | none =>
      rw [q] at h4
      cases h4
    | some o =>
      rw [q] at h4
      exact ⟨o, rfl, h4⟩
  exact ⟨e1, h1, fun p hp => (key p hp).1, fun p hp => by
    obtain ⟨_, o, q, z⟩ := key p hp
    exact frT_none q z, fun p hp => by
    obtain ⟨_, o, q, z⟩ := key p hp
    rw [q, emptyTab_eq z]⟩
open He in
def hookZ (n : Nat) (fa : List Fa) (fn : List DefD) (ts : List Tab) (tf : List Defn) (ex : PySem.W.Frag → Bool) : PySem.W.Hook where
  α := AlX
  obs := fun s => obsZ n fa fn ts tf ex s.heap.get?
  val := fun w => valX fn ts w
  says := fun w h => ∃ K : PySem.W.Frag, K.In h ∧ SaysX fa fn ts tf ex w h K
  of := fun _ _ e => ⟨_, frT_in, saysZ_of e⟩
  keeps := fun _ _ _ ⟨K, hK, c⟩ k => ⟨K, PySem.W.Frag.In.keeps hK k, ⟨c.t, c.more, c.hd, c.out, fun p hp => k _ _ (c.empty p hp)⟩⟩
open He in
theorem obsZ_eq {n : Nat} {fa : List Fa} {fn : List DefD} {ts : List Tab} {tf : List Defn} {ex : PySem.W.Frag → Bool} {g : Addr → Option Obj} {s : Shared} (h : ∀ a, g a = s.heap.get? a) : obsZ n fa fn ts tf ex g = (hookZ n fa fn ts tf ex).obs s := by
  have e : g = s.heap.get? := funext h
  rw [e] <;> rfl
end DL
end
section
set_option Elab.async false
set_option linter.all false
set_option maxRecDepth 100000
set_option maxHeartbeats 4000000
set_option autoImplicit false
namespace DL
open PySem PySem.Spec PyProof.Rows L2
section
variable [TN] {X : Cx} {C : Ctab}
/-! ## list(a text) -/
theorem cr_listStr (hc : X.calm = true) : CallR X (.type "list") (fun xs H Q => ∃ x : Str, xs = [V.str x] ∧ x.cps.size ≤ sizeLine ∧ ∀ p, H p = none → Q (.ref p) (upd H p (.lst ((signsOf x).map V.str)))) := by
  intro pins s σ H xs us Q I r h
  obtain ⟨x, rfl, hz, q⟩ := h
  obtain ⟨u, rfl, rx⟩ := vals1 r
  obtain ⟨t, rfl⟩ := rx
  refine call_list_str (I.ok.hd hc) x t (hn := hz) fun h' tk acc' c' hk hS' hacc => ?_
  have len : (signsOf x).length = x.cps.size := by
    unfold signsOf
    rw [List.length_map, Array.length_toList]
  have hv : Vals ((signsOf x).map V.str) acc'.toList := by
    obtain ⟨h1, h2⟩ := hacc
    have key : ∀ (ks : List Str) (l : List Value), l.length = ks.length → (∀ (j : Nat) (v : Value), l[j]? = some v → ∃ k t, ks[j]? = some k ∧ v = Value.str k t) → Vals (ks.map V.str) l := by
      intro ks
      induction ks with
      | nil =>
        intro l hl _
        cases l with
        | nil => exact .nil
        | cons _ _ => cases hl
      | cons k ks ih =>
        intro l hl hv
        cases l with
        | nil => cases hl
        | cons v l =>
          obtain ⟨k', t', e1, e2⟩ := hv 0 v rfl
          cases e1
          exact .cons ⟨t', e2⟩ (ih l (by simpa using hl) fun j v e => hv (j + 1) v e)
    refine key _ _ (by rw [Array.length_toList, h1, len]) fun j v e => ?_
    obtain ⟨c, t', e1, e2⟩ := h2 j v (by rw [← Array.getElem?_toList]; exact e)
    refine ⟨_, t', ?_, e2⟩
    unfold signsOf
    rw [List.getElem?_map, Array.getElem?_toList, e1] <;> rfl
  exact ⟨.ref s.heap.objs.size, _, I.laid (t' := tk) hk (Nat.le_refl _) (show ObjOk X.prog X.w _ h' _ (.lst ((signsOf x).map V.str)) from ⟨by rw [List.length_map, len]; exact hz, acc'.toList, c', hv, by simpa using hS'⟩), rfl, q _ (I.hok.fresh (Nat.le_refl _))⟩
def D.listX : D → Option (List D)
  | .tup l => some l
  | .lst l => some l
  | .str x => if x.cps.size ≤ lim then some (signs x) else none
  | _ => none
theorem signs_eq (x : Str) : signs x = (signsOf x).map D.str := by
  unfold signs signsOf
  rw [List.map_map] <;> rfl
theorem cd_listX (hc : X.calm = true) : CallD X (.type "list") (rD X.K C) (rN X.K C) D.listX := by
  obtain ⟨r1, c1, h1⟩ := cd_list (X := X) (C := C)
  refine ⟨_, c1.or (cr_listStr hc), fun F H H0 x dx Q e r p => ?_⟩
  cases dx <;> try (exact (show False from p).elim)
  · rename_i y
    right
    obtain rfl := str_of r
    have p2 : PostV (rN X.K C) F H Q (if y.cps.size ≤ lim then some (signs y) else none) := p
    split at p2
    case isFalse => exact (show False from p2).elim
    rename_i hl
    refine ⟨y, rfl, Nat.le_trans hl (by decide), fun l hl => p2 _ _ _ (Gr.own e hl) ⟨l, _, rfl, hl, e.back hl, upd_same, ?_⟩⟩
    rw [signs_eq]
    exact RpA.of_strs _
  · exact .inl (h1 F H H0 x _ Q e r p)
  · exact .inl (h1 F H H0 x _ Q e r p)
end
end DL
end
section
set_option Elab.async false
set_option linter.all false
set_option maxRecDepth 100000
set_option maxHeartbeats 4000000
set_option autoImplicit false
namespace DL
open PySem PySem.Spec PyProof.Rows L2
variable [TN]
/-! ## what comes to a slot -/
structure SlK {α : Type} (K : PySem.W.Frag) (C : Ctab) (ρ : Rep V α) (s : α → Sl) : Prop where
  set : ∀ {B F0 F H0 H : Hp} {σ : L2.St} {Γ : List Sl} {v : V} {x : α} (i : Nat), EnvOk K C B F0 F H σ Γ → ρ.r H0 F H v x → (∀ a, H0 a = none → B a = none) →
    (∀ a, v = .ref a → H0 a = none → ∀ j t, j ≠ i → Γ[j]? = some t → t.isOwn = true → σ[j]? = some (some (.ref a)) → False) → EnvOk K C B F0 F H (σ.set i (some v)) (Γ.set i (s x))
  live : ∀ {F H0 H : Hp} {v : V} {x : α}, ρ.r H0 F H v x → (s x).isOwn = true → ∀ a, v = .ref a → ∃ o, H a = some o
theorem slk_d (K : PySem.W.Frag) (C : Ctab) : SlK K C (rD K C) Sl.d := ⟨fun i E r _ _ => E.set_d i r, fun _ h => by cases h⟩
theorem slk_l (K : PySem.W.Frag) (C : Ctab) : SlK K C (rN K C) Sl.l := ⟨fun {B F0 F H0 H σ Γ v x} i E r hb fr => by
  obtain ⟨p, vs, rfl, h0, hf, h, ra⟩ := r
  exact E.set_own i ⟨p, vs, rfl, hb p h0, hf, h, ra⟩ fun j t n e ow hs => fr p rfl h0 j t n e ow hs, fun r _ a e => by
  obtain ⟨p, vs, rfl, h0, hf, h, ra⟩ := r
  cases e
  exact ⟨_, h⟩⟩
section
variable {T S α β δ : Type} {g : G} {ζ : Ret T} {Γ : List Sl} {γ : S → List Sl} {e a b c : Expr} {pos p1 p2 p3 p4 : Pos} {st : Stmt} {sts : List Stmt} {Dn : Ends}
theorem noB {K : PySem.W.Frag} {C : Ctab} {B F0 F H : Hp} {σ : L2.St} {Γ : List Sl} (E : EnvOk K C B F0 F H σ Γ) (a : Addr) (h : H a = none) : B a = none := E.eb.back h
theorem free0 {K : PySem.W.Frag} {C : Ctab} {B F0 F H : Hp} {σ : L2.St} {Γ : List Sl} (E : EnvOk K C B F0 F H σ Γ) {a : Addr} (h : H a = none) {j : Nat} {t : Sl} (e : Γ[j]? = some t) (ow : t.isOwn = true) (hs : σ[j]? = some (some (.ref a))) : False := by
  obtain ⟨⟨o, q, _⟩, _⟩ := E.own_at e ow hs
  rw [h] at q
  cases q
/-- after v1 has come to i -/
theorem free1 {K : PySem.W.Frag} {C : Ctab} {ρ : Rep V α} {s : α → Sl} (k : SlK K C ρ s) {F H0 H1 : Hp} {σ : L2.St} {Γ : List Sl} {v1 : V} {x : α} (r : ρ.r H0 F H1 v1 x) {i : Nat} {a : Addr} (h : H1 a = none)
    {j : Nat} {t : Sl} (e : (Γ.set i (s x))[j]? = some t) (ow : t.isOwn = true) (hs : (σ.set i (some v1))[j]? = some (some (.ref a))) (no : i ≠ j → Γ[j]? = some t → σ[j]? = some (some (.ref a)) → False) : False := by
  by_cases q : i = j
  · subst q
    by_cases hl : i < Γ.length
    · rw [List.getElem?_set_self hl] at e
      cases e
      rw [List.getElem?_set_self'] at hs
      cases e3 : σ[i]? with
      | none =>
        rw [e3] at hs
        cases hs
      | some z =>
        rw [e3] at hs
        cases hs
        obtain ⟨o, ho⟩ := k.live r ow a rfl
        rw [h] at ho
        cases ho
    · rw [List.getElem?_eq_none (by simpa using hl)] at e
      cases e
  · rw [List.getElem?_set_ne q] at e hs
    exact no q e hs
/-- x, y = (e, e'), each data or a new list -/
theorem cb_par2X {ρ1 : Rep V α} {ρ2 : Rep V β} {t1 : α → Sl} {t2 : β → Sl} (k1 : SlK g.X.K g.C ρ1 t1) (k2' : SlK g.X.K g.C ρ2 t2) (i j : Nat) {n m : Str} {kt k2 : Nat} {tp tp2 : Pos} {ra : R α} {rb : R β} {k : α → β → R (Fl T S)} (ha : CG g ρ1 a Γ ra) (hb : CG g ρ2 b Γ rb) (h2 : ∀ x y, CB g ζ γ sts ((Γ.set i (t1 x)).set j (t2 y)) (k x y)) (hc : g.X.calm = true)
    (nd : g.X.N.Nodup) (hw : swappedStores [.Tuple [.Name n p1, .Name m p2] kt tp] (.Tuple [a, b] k2 tp2) g.X.env = pure (some [n, m])) (hij : i ≠ j := by decide) (hN : g.X.N[i]? = some n := by rfl) (hx : g.X.env.scope.names.lookup n = some .local := by rfl) (hj : g.X.N[j]? = some m := by rfl) (hy : g.X.env.scope.names.lookup m = some .local := by rfl)
    (hs : swapsWithSole [.Tuple [.Name n p1, .Name m p2] kt tp] (.Tuple [a, b] k2 tp2) pos.line g.X.env = pure false := by rfl)
    (s1 : starEach [a, b] g.X.env = (false, eval a g.X.env) :: starEach [b] g.X.env := by rfl) (s2 : starEach [b] g.X.env = [(false, eval b g.X.env)] := by rfl) :
    CB g ζ γ (.Assign [.Tuple [.Name n p1, .Name m p2] kt tp] (.Tuple [a, b] k2 tp2) pos :: sts) Γ (ra >>= fun x => rb >>= fun y => k x y) := .mk fun F H σ Dn E p => by
  refine wB_of (pss_cons (ps_par hc nd hN hj hij hx hy (pa_cons (pe_w _ a) (pa_cons (pe_w _ b) pa_nil s2) s1) hw hs) (pss_w _ sts)) ?_
  refine ha F H σ _ E (p.expr E fun x v F1 H1 g1 r1 E1 p' => hb F1 H1 σ _ E1 (p'.expr E1 fun y w F2 H2 g2 r2 E2 p2 => ?_))
  refine ⟨v, w, rfl, h2 x y F2 H2 _ Dn (k2'.set j (k1.set i E2 (ρ1.grow g2 r1) (noB E) fun a _ h0 l t _ e ow hs => free0 E h0 e ow hs) r2 (noB E1) fun a _ h0 l t _ e ow hs => ?_) p2⟩
  exact free1 k1 r1 h0 e ow hs fun _ e hs => free0 E1 h0 e ow hs
/-- x, y, z = (e, e', e'') -/
theorem cb_par3X {ρ1 : Rep V α} {ρ2 : Rep V β} {ρ3 : Rep V δ} {t1 : α → Sl} {t2 : β → Sl} {t3 : δ → Sl} (k1 : SlK g.X.K g.C ρ1 t1) (k2' : SlK g.X.K g.C ρ2 t2) (k3 : SlK g.X.K g.C ρ3 t3) (i j l : Nat) {n m o : Str} {kt k2 : Nat} {tp tp2 : Pos} {ra : R α} {rb : R β} {rc : R δ} {k : α → β → δ → R (Fl T S)}
    (ha : CG g ρ1 a Γ ra) (hb : CG g ρ2 b Γ rb) (hcc : CG g ρ3 c Γ rc) (h2 : ∀ x y z, CB g ζ γ sts (((Γ.set i (t1 x)).set j (t2 y)).set l (t3 z)) (k x y z)) (hc : g.X.calm = true)
    (nd : g.X.N.Nodup) (hw : swappedStores [.Tuple [.Name n p1, .Name m p2, .Name o p3] kt tp] (.Tuple [a, b, c] k2 tp2) g.X.env = pure (some [n, m, o])) (hij : i ≠ j := by decide) (hil : i ≠ l := by decide) (hjl : j ≠ l := by decide) (hN : g.X.N[i]? = some n := by rfl) (hx : g.X.env.scope.names.lookup n = some .local := by rfl) (hj : g.X.N[j]? = some m := by rfl) (hy : g.X.env.scope.names.lookup m = some .local := by rfl)
    (hl : g.X.N[l]? = some o := by rfl) (hz : g.X.env.scope.names.lookup o = some .local := by rfl)
    (hs : swapsWithSole [.Tuple [.Name n p1, .Name m p2, .Name o p3] kt tp] (.Tuple [a, b, c] k2 tp2) pos.line g.X.env = pure false := by rfl)
    (s1 : starEach [a, b, c] g.X.env = (false, eval a g.X.env) :: starEach [b, c] g.X.env := by rfl) (s2 : starEach [b, c] g.X.env = (false, eval b g.X.env) :: starEach [c] g.X.env := by rfl) (s3 : starEach [c] g.X.env = [(false, eval c g.X.env)] := by rfl) :
    CB g ζ γ (.Assign [.Tuple [.Name n p1, .Name m p2, .Name o p3] kt tp] (.Tuple [a, b, c] k2 tp2) pos :: sts) Γ (ra >>= fun x => rb >>= fun y => rc >>= fun z => k x y z) := .mk fun F H σ Dn E p => by
  refine wB_of (pss_cons (ps_par3 hc nd hN hj hl hij hil hjl hx hy hz (pa_cons (pe_w _ a) (pa_cons (pe_w _ b) (pa_cons (pe_w _ c) pa_nil s3) s2) s1) hw hs) (pss_w _ sts)) ?_
  refine ha F H σ _ E (p.expr E fun x v F1 H1 g1 r1 E1 p' => hb F1 H1 σ _ E1 (p'.expr E1 fun y w F2 H2 g2 r2 E2 p2 => hcc F2 H2 σ _ E2 (p2.expr E2 fun z u F3 H3 g3 r3 E3 p3 => ?_)))
  refine ⟨v, w, u, rfl, h2 x y z F3 H3 _ Dn (k3.set l (k2'.set j (k1.set i E3 (ρ1.grow g3 (ρ1.grow g2 r1)) (noB E) fun a _ h0 l t _ e ow hs => free0 E h0 e ow hs) (ρ2.grow g3 r2) (noB E1) fun a _ h0 l t _ e ow hs => ?_) r3 (noB E2) fun a _ h0 l t _ e ow hs => ?_) p3⟩
  · exact free1 k1 r1 h0 e ow hs fun _ e hs => free0 E1 h0 e ow hs
  · exact free1 k2' r2 h0 e ow hs fun _ e hs => free1 k1 (ρ1.grow g2 r1) h0 e ow hs fun _ e hs => free0 E2 h0 e ow hs
/-! ## pop, += -/
def popD {β : Type} (xs : List D) (k : List D → D → R β) : R β := match xs.getLast? with
  | some x => k xs.dropLast x
  | none => .un
theorem cb_popP (i : Nat) {n : Str} {tg : Expr} {xs : List D} {k : List D → D → R (Fl T S)} (h2 : ∀ ys x, k ys x = .un ∨ ∃ Γ', CP g tg (Γ.set i (.l ys)) Γ' x ∧ CB g ζ γ sts Γ' (k ys x)) (hi : Γ[i]? = some (.l xs) := by rfl) (hN : g.X.N[i]? = some n := by rfl)
    (hv : Vis g.X.env.scope n := by first | exact Or.inl rfl | exact Or.inr (Or.inl rfl) | exact Or.inr (Or.inr rfl)) (hd : (n == ("__debug__" : Str)) = false := by decide) (hcd : (n == ("__classdict__" : Str)) = false := by decide)
    (hs1 : swapsWithSole [tg] (.Call (.Attribute (.Name n p1) "pop" p2) [] [] p3) pos.line g.X.env = pure false := by rfl) (hs2 : swappedStores [tg] (.Call (.Attribute (.Name n p1) "pop" p2) [] [] p3) g.X.env = pure none := by rfl) (hs3 : (assignEach [tg] g.X.env).map (·.2) = [assign tg g.X.env] := by rfl)
    (hbase : attributeBase (.Name n p1) "pop" g.X.env (eval (.Name n p1) g.X.env) = eval (.Name n p1) g.X.env := by rfl) (hline : (p2.endLine == p3.line) = true := by rfl) :
    CB g ζ γ (.Assign [tg] (.Call (.Attribute (.Name n p1) "pop" p2) [] [] p3) pos :: sts) Γ (popD xs k) := .mk fun F H σ Dn E p => by
  refine wB_of (pss_cons (ps_asg (pe_bm0 PySem.F.plainAttrs_list PySem.F.slot_list_pop PySem.F.type_list_pop mt_pop (pe_var hN hv hd hcd) hbase hline) (pg_w _ _) hs1 hs2 hs3) (pss_w _ sts)) ?_
  obtain ⟨o, h1, a, vs, rfl, hb, hf, hh, ra⟩ := E.sl i _ hi
  unfold popD at p
  cases q : xs.getLast? with
  | none =>
    rw [q] at p
    exact (show False from p).elim
  | some x =>
    rw [q] at p
    have p' : PostS g ζ γ Dn F (k xs.dropLast x) := p
    have q' : xs[xs.length - 1]? = some x := by rw [← List.getLast?_eq_getElem?]; exact q
    obtain ⟨v, e1, r1⟩ := ra.get q'
    rw [← ra.length] at e1
    refine ⟨_, h1, .inl ⟨rfl, _, SqL.of hh⟩, a, vs, v, rfl, rfl, hh, e1, ?_⟩
    have rd : RpA g.X.K g.C F vs.dropLast xs.dropLast := by
      rw [List.dropLast_eq_take, List.dropLast_eq_take, ra.length]
      exact ra.take _
    have E2 := EnvOk.write E hi rfl h1 (s' := .l xs.dropLast) (u := .lst vs.dropLast) ⟨a, _, rfl, hb, hf, upd_same, rd⟩
    rcases h2 xs.dropLast x with hu | ⟨Γ', hcp, hcb⟩
    · rw [hu] at p'
      exact (show False from p').elim
    · intro pins s u I ru
      exact hcp F _ σ v _ E2 r1 (fun σ' E' => hcb F _ σ' Dn E' p') pins s u I ru
theorem cb_pop (i j : Nat) {n m : Str} {xs : List D} {k : List D → D → R (Fl T S)} (h2 : ∀ ys x, CB g ζ γ sts ((Γ.set i (.l ys)).set j (.d x)) (k ys x)) (nd : g.X.N.Nodup) (hi : Γ[i]? = some (.l xs) := by rfl) (hN : g.X.N[i]? = some n := by rfl) (hj : g.X.N[j]? = some m := by rfl)
    (hx : Loc g.X.env.scope m := by first | exact Or.inl rfl | exact Or.inr rfl) (hfm : g.X.fn m = true ∨ g.X.env.scope.names.lookup m = some .local := by first | exact .inl rfl | exact .inr rfl)
    (hv : Vis g.X.env.scope n := by first | exact Or.inl rfl | exact Or.inr (Or.inl rfl) | exact Or.inr (Or.inr rfl)) (hd : (n == ("__debug__" : Str)) = false := by decide) (hcd : (n == ("__classdict__" : Str)) = false := by decide)
    (hs1 : swapsWithSole [.Name m p4] (.Call (.Attribute (.Name n p1) "pop" p2) [] [] p3) pos.line g.X.env = pure false := by rfl) (hs2 : swappedStores [.Name m p4] (.Call (.Attribute (.Name n p1) "pop" p2) [] [] p3) g.X.env = pure none := by rfl) (hs3 : (assignEach [.Name m p4] g.X.env).map (·.2) = [assign (.Name m p4) g.X.env] := by rfl)
    (hbase : attributeBase (.Name n p1) "pop" g.X.env (eval (.Name n p1) g.X.env) = eval (.Name n p1) g.X.env := by rfl) (hline : (p2.endLine == p3.line) = true := by rfl) :
    CB g ζ γ (.Assign [.Name m p4] (.Call (.Attribute (.Name n p1) "pop" p2) [] [] p3) pos :: sts) Γ (popD xs k) :=
  cb_popP i (fun ys x => .inr ⟨_, cp_name j nd hj hx hfm, h2 ys x⟩) hi hN hv hd hcd hs1 hs2 hs3 hbase hline
end
end DL
end
section
set_option Elab.async false
set_option linter.all false
set_option maxRecDepth 100000
set_option maxHeartbeats 4000000
set_option autoImplicit false
namespace DL
open PySem PySem.Spec PyProof.Rows L2
variable [TN]
section
variable {T S α β δ : Type} {g : G} {ζ : Ret T} {Γ : List Sl} {γ : S → List Sl} {e a b c : Expr} {pos p1 p2 p3 p4 p5 : Pos} {st : Stmt} {sts : List Stmt} {Dn : Ends}
/-- x, y = xs.pop() -/
theorem cb_pop2 (i j l : Nat) {n m o : Str} {kk : Nat} {tp : Pos} {xs : List D} {k : List D → D → D → R (Fl T S)} (h2 : ∀ ys x y, CB g ζ γ sts (((Γ.set i (.l ys)).set j (.d x)).set l (.d y)) (k ys x y)) (nd : g.X.N.Nodup) (hc : g.X.calm = true) (hi : Γ[i]? = some (.l xs) := by rfl) (hN : g.X.N[i]? = some n := by rfl)
    (hj : g.X.N[j]? = some m := by rfl) (hx : Loc g.X.env.scope m := by first | exact Or.inl rfl | exact Or.inr rfl) (hfm : g.X.fn m = true ∨ g.X.env.scope.names.lookup m = some .local := by first | exact .inl rfl | exact .inr rfl)
    (hl : g.X.N[l]? = some o := by rfl) (hy : Loc g.X.env.scope o := by first | exact Or.inl rfl | exact Or.inr rfl) (hf2 : g.X.fn o = true ∨ g.X.env.scope.names.lookup o = some .local := by first | exact .inl rfl | exact .inr rfl)
    (s1 : (assignEach [.Name m p4, .Name o p5] g.X.env).map (·.2) = assign (.Name m p4) g.X.env :: (assignEach [.Name o p5] g.X.env).map (·.2) := by rfl) (s2 : (assignEach [.Name o p5] g.X.env).map (·.2) = assign (.Name o p5) g.X.env :: (assignEach [] g.X.env).map (·.2) := by rfl)
    (hn : (assignEach [.Name m p4, .Name o p5] g.X.env).length = 2 := by rfl) (hst : (assignEach [.Name m p4, .Name o p5] g.X.env).findIdx? (·.1) = none := by rfl)
    (hv : Vis g.X.env.scope n := by first | exact Or.inl rfl | exact Or.inr (Or.inl rfl) | exact Or.inr (Or.inr rfl)) (hd : (n == ("__debug__" : Str)) = false := by decide) (hcd : (n == ("__classdict__" : Str)) = false := by decide)
    (hs1 : swapsWithSole [.Tuple [.Name m p4, .Name o p5] kk tp] (.Call (.Attribute (.Name n p1) "pop" p2) [] [] p3) pos.line g.X.env = pure false := by rfl) (hs2 : swappedStores [.Tuple [.Name m p4, .Name o p5] kk tp] (.Call (.Attribute (.Name n p1) "pop" p2) [] [] p3) g.X.env = pure none := by rfl) (hs3 : (assignEach [.Tuple [.Name m p4, .Name o p5] kk tp] g.X.env).map (·.2) = [assign (.Tuple [.Name m p4, .Name o p5] kk tp) g.X.env] := by rfl)
    (hbase : attributeBase (.Name n p1) "pop" g.X.env (eval (.Name n p1) g.X.env) = eval (.Name n p1) g.X.env := by rfl) (hline : (p2.endLine == p3.line) = true := by rfl) :
    CB g ζ γ (.Assign [.Tuple [.Name m p4, .Name o p5] kk tp] (.Call (.Attribute (.Name n p1) "pop" p2) [] [] p3) pos :: sts) Γ (popD xs fun ys => D.two (k ys)) :=
  cb_popP i (fun ys x => by
    by_cases h : ∃ a b, x = .tup [a, b]
    · obtain ⟨a, b, rfl⟩ := h
      exact .inr ⟨_, cp_tup2 j l hc nd hj hx hfm hl hy hf2 s1 s2 hn hst, h2 ys a b⟩
    · left
      unfold D.two
      split
      · exact (h ⟨_, _, rfl⟩).elim
      · rfl) hi hN hv hd hcd hs1 hs2 hs3 hbase hline
/-- x += e, whole numbers -/
def D.addI : D → D → Option D
  | .int i, .int j => some (.int (i + j))
  | _, _ => none
theorem cb_augI (i : Nat) {n : Str} {x : D} {r : R D} {k : D → R (Fl T S)} (h : CE g e Γ r) (h2 : ∀ z, CB g ζ γ sts (Γ.set i (.d z)) (k z)) (nd : g.X.N.Nodup) (hi : Γ[i]? = some (.d x) := by rfl) (hN : g.X.N[i]? = some n := by rfl)
    (hx : Loc g.X.env.scope n := by first | exact Or.inl rfl | exact Or.inr rfl) (hf : g.X.fn n = true ∨ g.X.env.scope.names.lookup n = some .local := by first | exact .inl rfl | exact .inr rfl) :
    CB g ζ γ (.AugAssign (.Name n p1) .Add e pos :: sts) Γ (r >>= fun y => R.of (D.addI x y) >>= k) := .mk fun F H σ Dn E p => by
  refine wB_of (pss_cons (ps_aug nd hN hx (pe_w _ e) ip_add hf) (pss_w _ sts)) ?_
  obtain ⟨o, h1, v, rfl, rv⟩ := E.sl i _ hi
  refine ⟨v, h1, ?_⟩
  refine h F H σ _ E (p.expr E fun y w F1 H1 g1 r1 E1 p' => ?_)
  cases x <;> try (exact (show False from p').elim)
  rename_i a
  cases y <;> try (exact (show False from p').elim)
  rename_i b
  have p2 : PostS g ζ γ Dn F1 (k (.int (a + b))) := p'
  exact ⟨a, b, int_of rv, int_of r1, h2 _ F1 H1 _ Dn (E1.set_d i (.int _)) p2⟩
end
end DL
end
section
set_option Elab.async false
set_option linter.all false
set_option maxRecDepth 100000
set_option maxHeartbeats 4000000
set_option autoImplicit false
namespace DL
open PySem PySem.Spec PyProof.Rows L2
variable [TN]
section
variable {T S α β δ : Type} {g : G} {ζ : Ret T} {Γ : List Sl} {γ : S → List Sl} {e b c : Expr} {pos p1 p2 p3 p4 p5 : Pos} {st : Stmt} {sts : List Stmt} {Dn : Ends}
/-! ## y in an own dict -/
def dhas (kvs : DK) (y : D) : Option Bool := y.key.map fun k => (dval kvs k).isSome
theorem dhas_some {kvs : DK} {y : D} {t : Bool} (h : dhas kvs y = some t) : ∃ k, y.key = some k ∧ t = (dval kvs k).isSome := by
  unfold dhas at h
  cases q : y.key with
  | none =>
    rw [q] at h
    cases h
  | some k =>
    rw [q] at h
    cases h
    exact ⟨k, rfl, rfl⟩
theorem ct_din (i : Nat) {ad : Addr} {kvs : DK} {n : Str} {r : R D} (h : CE g e Γ r) (hu : g.X.A.units + 64 < cLine) (hi : Γ[i]? = some (.k ad kvs) := by rfl) (hN : g.X.N[i]? = some n := by rfl) (hm : behindInMarks .In (.Name n p1) = false := by rfl)
    (hv : Vis g.X.env.scope n := by first | exact Or.inl rfl | exact Or.inr (Or.inl rfl) | exact Or.inr (Or.inr rfl)) (hd : (n == ("__debug__" : Str)) = false := by decide) (hcd : (n == ("__classdict__" : Str)) = false := by decide) :
    CT g (.Compare e [.In] [.Name n p1] pos) Γ (r >>= fun y => R.of (dhas kvs y)) := .mk fun F H σ Q E p => by
  refine wT_of (pt_cmp (pc_din (by omega) (pe_w _ e) (pe_var hN hv hd hcd)) hm) ?_
  refine h F H σ _ E (p.seq fun y v F1 H1 g1 r1 p1 => ?_)
  obtain ⟨o, h1, ws, rfl, hb, hf, hh, ra⟩ := E.sl i _ hi
  refine ⟨_, h1, ?_⟩
  cases q : dhas kvs y with
  | none =>
    rw [q] at p1
    exact (show False from p1).elim
  | some t =>
    rw [q] at p1
    obtain ⟨k, qk, rfl⟩ := dhas_some q
    obtain rfl := key_of r1 qk
    have hg := DGet.k (k := k) (g1.h.at hh)
    rcases (ra.mono g1.f).val k with ⟨q1, q2⟩ | ⟨v, x, q1, q2, r2⟩
    · refine ⟨ad, none, rfl, by rw [← q1]; exact hg, _, rfl, ?_⟩
      rw [q2] at p1
      exact p1 _ _ _ (Gr.refl g1.fh) rfl
    · refine ⟨ad, some v, rfl, by rw [← q1]; exact hg, _, rfl, ?_⟩
      rw [q2] at p1
      exact p1 _ _ _ (Gr.refl g1.fh) rfl
/-- the value of a test -/
theorem ce_din (i : Nat) {ad : Addr} {kvs : DK} {n : Str} {r : R D} (h : CE g e Γ r) (hu : g.X.A.units + 64 < cLine) (hi : Γ[i]? = some (.k ad kvs) := by rfl) (hN : g.X.N[i]? = some n := by rfl) (hm : behindInMarks .In (.Name n p1) = false := by rfl)
    (hv : Vis g.X.env.scope n := by first | exact Or.inl rfl | exact Or.inr (Or.inl rfl) | exact Or.inr (Or.inr rfl)) (hd : (n == ("__debug__" : Str)) = false := by decide) (hcd : (n == ("__classdict__" : Str)) = false := by decide) :
    CE g (.Compare e [.In] [.Name n p1] pos) Γ (r >>= fun y => R.of (dhas kvs y) >>= fun k => R.ok (D.bl k)) := .mk fun F H σ Q E p => by
  refine wE_of (pe_cmp (pc_din (by omega) (pe_w _ e) (pe_var hN hv hd hcd)) hm) ?_
  refine h F H σ _ E (p.seq fun y v F1 H1 g1 r1 p1 => ?_)
  obtain ⟨o, h1, ws, rfl, hb, hf, hh, ra⟩ := E.sl i _ hi
  refine ⟨_, h1, ?_⟩
  cases q : dhas kvs y with
  | none =>
    rw [q] at p1
    exact (show False from p1).elim
  | some t =>
    rw [q] at p1
    obtain ⟨k, qk, rfl⟩ := dhas_some q
    obtain rfl := key_of r1 qk
    have hg := DGet.k (k := k) (g1.h.at hh)
    rcases (ra.mono g1.f).val k with ⟨q1, q2⟩ | ⟨v, x, q1, q2, r2⟩
    · refine ⟨ad, none, rfl, by rw [← q1]; exact hg, ?_⟩
      rw [q2] at p1
      exact p1 _ _ _ (Gr.refl g1.fh) (.bl _)
    · refine ⟨ad, some v, rfl, by rw [← q1]; exact hg, ?_⟩
      rw [q2] at p1
      exact p1 _ _ _ (Gr.refl g1.fh) (.bl _)
end
section
variable {g : G} {Γ : List Sl} {b c : Expr} {pos : Pos} {a : Addr} {s : DK}
/-- b[c], both with the state -/
theorem cgs_ix2 {β : Type} (i : Nat) {ρ1 : Rep V β} {h : β → D → Option D} {ra : R (β × DK)} {rb : DK → R (D × DK)} (ho : IxD g.X ρ1 (rD g.X.K g.C) (rD g.X.K g.C) h) (ha : CGS g ρ1 a b Γ ra) (hb : ∀ s', CES g a c (Γ.set i (.k a s')) (rb s'))
    (hk : ∀ {s1 : DK} {H0 F H F' H' : Hp} {v : V} {x : β}, GrS a F H F' H' → StA g.X.K g.C F H a s1 → ρ1.r H0 F H v x → ρ1.r H0 F' H' v x) (hi : Γ[i]? = some (.k a s) := by rfl) (hs : PlainIx c := by exact fun _ _ => rfl) :
    CES g a (.Subscript b c pos) Γ (bnd ra fun x t => bnd (rb t) fun u t => R.of (h x u) >>= fun y => R.ok (y, t)) := .mk fun F H σ Q E p => by
  obtain ⟨r, h1, h2⟩ := ho
  refine wE_of (pe_ix h1 (pe_w _ b) (pe_w _ c) hs) ?_
  refine ha F H σ _ E (p.seq (k := fun x t => bnd (rb t) fun u t => R.of (h x u) >>= fun y => R.ok (y, t)) fun x s1 v F1 H1 g1 st1 r1 p1 => ?_)
  refine hb s1 F1 H1 σ _ (E.grS hi g1 st1) (p1.seq (k := fun u t => R.of (h x u) >>= fun y => R.ok (y, t)) fun u s2 w F2 H2 g2 st2 r2 p2 => ?_)
  exact h2 F2 H2 H H1 v w x u Q g2.fh (hk g2 st1 r1) r2 (p2.ofV st2)
end
end DL
end
section
set_option Elab.async false
set_option linter.all false
set_option maxRecDepth 100000
set_option maxHeartbeats 4000000
set_option autoImplicit false
namespace DL
open PySem PySem.Spec PyProof.Rows L2
variable [TN]
/-! ## constants of the modules -/
mutual
def ktB (K : PySem.W.Frag) : Value → D → Bool
  | .none, .non => true
  | .bool b, .bl c => decide (b = c)
  | .int i _, .int j => decide (i = j)
  | .str x _, .str y => decide (x = y)
  | .ref a, .tup ds => match K.lookup a with
    | some ⟨.type c, _, .seq its _, _⟩ => decide (c = "tuple") && (decide (its.size ≤ 1000) && ktA K its.toList ds)
    | _ => false
  | _, _ => false
def ktA (K : PySem.W.Frag) : List Value → List D → Bool
  | [], [] => true
  | u :: us, d :: ds => ktB K u d && ktA K us ds
  | _, _ => false
end
mutual
theorem ktB_ok {K : PySem.W.Frag} : ∀ (u : Value) (d : D), ktB K u d = true → ∃ v, RelV v u ∧ ∀ (F : Hp) (C : Ctab), Rp K C F v d
  | u, .non, h => by
    cases u <;> try (simp [ktB] at h; done)
    exact ⟨.non, rfl, fun _ _ => .non⟩
  | u, .bl c, h => by
    cases u <;> try (simp [ktB] at h; done)
    rename_i b
    obtain rfl : b = c := by simpa [ktB] using h
    exact ⟨.bl b, rfl, fun _ _ => .bl b⟩
  | u, .int j, h => by
    cases u <;> try (simp [ktB] at h; done)
    rename_i i t
    obtain rfl : i = j := by simpa [ktB] using h
    exact ⟨.int i, ⟨t, rfl⟩, fun _ _ => .int i⟩
  | u, .str y, h => by
    cases u <;> try (simp [ktB] at h; done)
    rename_i x t
    obtain rfl : x = y := by simpa [ktB] using h
    exact ⟨.str x, ⟨t, rfl⟩, fun _ _ => .str x⟩
  | u, .tup ds, h => by
    cases u <;> try (simp [ktB] at h; done)
    rename_i a
    unfold ktB at h
    split at h
    · rename_i c od its n sl e
      simp only [Bool.and_eq_true, decide_eq_true_eq] at h
      obtain ⟨rfl, hz, ha⟩ := h
      obtain ⟨vs, rv, ra⟩ := ktA_ok its.toList ds ha
      exact ⟨.ref a, rfl, fun F C => .tup (.inr ⟨_, its, n, e, rfl, rfl, Nat.le_trans hz (by decide), rv⟩) (ra F C)⟩
    · cases h
  | u, .lst ds, h => by cases u <;> simp [ktB] at h
  | u, .exc c d, h => by cases u <;> simp [ktB] at h
theorem ktA_ok {K : PySem.W.Frag} : ∀ (us : List Value) (ds : List D), ktA K us ds = true → ∃ vs, Vals vs us ∧ ∀ (F : Hp) (C : Ctab), RpA K C F vs ds
  | [], [], _ => ⟨[], .nil, fun _ _ => .nil⟩
  | u :: us, d :: ds, h => by
    have h : (ktB K u d && ktA K us ds) = true := by simpa [ktA] using h
    obtain ⟨h1, h2⟩ := Bool.and_eq_true_iff.mp h
    obtain ⟨v, r, rp⟩ := ktB_ok u d h1
    obtain ⟨vs, rs, rps⟩ := ktA_ok us ds h2
    exact ⟨v :: vs, .cons r rs, fun F C => .cons (rp F C) (rps F C)⟩
  | [], _ :: _, h => by simp [ktA] at h
  | _ :: _, [], h => by simp [ktA] at h
end
section
variable {g : G} {Γ : List Sl} {e a b c : Expr} {pos p1 p2 : Pos}
/-- a constant of a module -/
theorem ce_globT {x : Str} {u : Value} {d : D} (hm : g.X.mg x = some u) (hk : ktB g.X.K u d = true) (hg : Gl g.X x := by rfl) (hd : (x == ("__debug__" : Str)) = false := by decide) : CE g (.Name x pos) Γ (R.ok d) := by
  obtain ⟨v, r, rp⟩ := ktB_ok u d hk
  exact ce_glob hg hm r (fun F => rp F g.C) hd
end
/-! ## tables of the modules, text keys -/
def kdE (K : PySem.W.Frag) : List DictEntry → List (Str × D) → Bool
  | [], [] => true
  | e :: es, p :: r => (match e.key with
    | .str x _ => decide (x = p.1)
    | _ => false) && (ktB K e.val p.2 && kdE K es r)
  | _, _ => false
def kdB (K : PySem.W.Frag) (a : Addr) (ps : List (Str × D)) : Bool := match K.lookup a with
  | some ⟨_, _, .dict es _, _⟩ => kdE K es.toList ps
  | _ => false
def klook (ps : List (Str × D)) (z : Str) : Option D := (ps.find? fun p => decide (p.1 = z)).map (·.2)
theorem kdE_find {K : PySem.W.Frag} (z : Str) : ∀ {es : List DictEntry} {ps : List (Str × D)}, kdE K es ps = true → es.any (·.refKey) = false ∧ match es.find? (·.key.isStr z) with
    | some e => ∃ d, klook ps z = some d ∧ ktB K e.val d = true
    | none => klook ps z = none
  | [], [], _ => ⟨rfl, rfl⟩
  | e :: es, p :: r, h => by
    unfold kdE at h
    obtain ⟨h1, h2⟩ := Bool.and_eq_true_iff.mp h
    obtain ⟨h3, h4⟩ := Bool.and_eq_true_iff.mp h2
    obtain ⟨i1, i2⟩ := kdE_find z h4
    cases q : e.key with
    | str x t =>
      rw [q] at h1
      have hx : x = p.1 := of_decide_eq_true h1
      have hr : e.refKey = false := by
        unfold DictEntry.refKey
        rw [q] <;> rfl
      refine ⟨by rw [List.any_cons, hr, i1] <;> rfl, ?_⟩
      have hs : e.key.isStr z = decide (x = z) := by
        rw [q]
        show (x == z) = _
        by_cases c : x = z
        · simp [c]
        · simp [c]
      by_cases c : x = z
      · rw [List.find?_cons_of_pos (by rw [hs]; simpa using c)]
        refine ⟨p.2, ?_, h3⟩
        unfold klook
        rw [List.find?_cons_of_pos (by rw [← hx]; simpa using c)] <;> rfl
      · rw [List.find?_cons_of_neg (by rw [hs]; simpa using c)]
        have e2 : klook (p :: r) z = klook r z := by
          unfold klook
          rw [List.find?_cons_of_neg (by rw [← hx]; simpa using c)]
        rw [e2]
        exact i2
    | _ =>
      rw [q] at h1
      cases h1
  | [], _ :: _, h => by cases h
  | _ :: _, [], h => by cases h
theorem kd_ns {K : PySem.W.Frag} {a : Addr} {ps : List (Str × D)} (h : kdB K a ps = true) (z : Str) : (PySem.W.nsIn K a z = some none ∧ klook ps z = none) ∨ ∃ u d, PySem.W.nsIn K a z = some (some u) ∧ klook ps z = some d ∧ ktB K u d = true := by
  unfold kdB at h
  split at h
  · rename_i c od es n sl e
    obtain ⟨h1, h2⟩ := kdE_find z h
    unfold PySem.W.nsIn
    rw [e]
    dsimp only
    cases q : es.toList.find? (·.key.isStr z) with
    | some x =>
      rw [q] at h2
      obtain ⟨d, hd, hk⟩ := h2
      exact .inr ⟨x.val, d, rfl, hd, hk⟩
    | none =>
      rw [q] at h2
      exact .inl ⟨by rw [h1] <;> rfl, h2⟩
  · cases h
/-- a the place of the table ps -/
structure KTab (K : PySem.W.Frag) (w : World) (a : Addr) (ps : List (Str × D)) : Prop where
  t : ∃ es n, KDict K w a es n
  v : kdB K a ps = true
def kIn (ps : List (Str × D)) : D → Option Bool
  | .str z => some (klook ps z).isSome
  | _ => none
def kGet (ps : List (Str × D)) : D → Option D
  | .str z => klook ps z
  | _ => none
section
variable {g : G} {Γ : List Sl} {e a b c : Expr} {pos p1 p2 : Pos}
theorem ct_kin {x : Str} {d : Addr} {ps : List (Str × D)} {r : R D} (h : CE g e Γ r) (hT : KTab g.X.K g.X.w d ps) (hmg : g.X.mg x = some (.ref d)) (hm : behindInMarks .In (.Name x p1) = false := by rfl) (hg : Gl g.X x := by rfl) (hdb : (x == ("__debug__" : Str)) = false := by decide) :
    CT g (.Compare e [.In] [.Name x p1] pos) Γ (r >>= fun y => R.of (kIn ps y)) := .mk fun F H σ Q E p => by
  obtain ⟨es, n, D1⟩ := hT.t
  refine wT_of (pt_cmpR (op_in_kd D1) (pe_w _ e) (pe_glob hg hmg (v := .ref d) rfl hdb) hm) ?_
  refine h F H σ _ E (p.seq fun y v F1 H1 g1 r1 p1 => ?_)
  cases y <;> try (exact (show False from p1).elim)
  rename_i z
  obtain rfl : v = .str z := by
    cases r1
    rfl
  have p2 : Post g rB F1 H1 σ Q (R.ok (klook ps z).isSome) := p1
  rcases kd_ns hT.v z with ⟨q1, q2⟩ | ⟨u, dd, q1, q2, q3⟩
  · refine ⟨z, none, rfl, rfl, q1, _, rfl, ?_⟩
    rw [q2] at p2
    exact p2 _ _ _ (Gr.refl g1.fh) rfl
  · refine ⟨z, some u, rfl, rfl, q1, _, rfl, ?_⟩
    rw [q2] at p2
    exact p2 _ _ _ (Gr.refl g1.fh) rfl
theorem ce_kin {x : Str} {d : Addr} {ps : List (Str × D)} {r : R D} (h : CE g e Γ r) (hT : KTab g.X.K g.X.w d ps) (hmg : g.X.mg x = some (.ref d)) (hm : behindInMarks .In (.Name x p1) = false := by rfl) (hg : Gl g.X x := by rfl) (hdb : (x == ("__debug__" : Str)) = false := by decide) :
    CE g (.Compare e [.In] [.Name x p1] pos) Γ (r >>= fun y => R.of (kIn ps y) >>= fun k => R.ok (D.bl k)) := .mk fun F H σ Q E p => by
  obtain ⟨es, n, D1⟩ := hT.t
  refine wE_of (pe_cmpR (op_in_kd D1) (pe_w _ e) (pe_glob hg hmg (v := .ref d) rfl hdb) hm) ?_
  refine h F H σ _ E (p.seq fun y v F1 H1 g1 r1 p1 => ?_)
  cases y <;> try (exact (show False from p1).elim)
  rename_i z
  obtain rfl : v = .str z := by
    cases r1
    rfl
  have p2 : Post g (rD g.X.K g.C) F1 H1 σ Q (R.ok (D.bl (klook ps z).isSome)) := p1
  rcases kd_ns hT.v z with ⟨q1, q2⟩ | ⟨u, dd, q1, q2, q3⟩
  · refine ⟨z, none, rfl, rfl, q1, ?_⟩
    rw [q2] at p2
    exact p2 _ _ _ (Gr.refl g1.fh) (.bl _)
  · refine ⟨z, some u, rfl, rfl, q1, ?_⟩
    rw [q2] at p2
    exact p2 _ _ _ (Gr.refl g1.fh) (.bl _)
theorem ce_kget {x : Str} {d : Addr} {ps : List (Str × D)} {r : R D} (h : CE g e Γ r) (hT : KTab g.X.K g.X.w d ps) (hmg : g.X.mg x = some (.ref d)) (hs : PlainIx e := by exact fun _ _ => rfl) (hg : Gl g.X x := by rfl) (hdb : (x == ("__debug__" : Str)) = false := by decide) :
    CE g (.Subscript (.Name x p1) e pos) Γ (r >>= fun y => R.of (kGet ps y)) := .mk fun F H σ Q E p => by
  obtain ⟨es, n, D1⟩ := hT.t
  refine wE_of (pe_ix ix_kdict (pe_glob hg hmg (v := .ref d) rfl hdb) (pe_w _ e) hs) ?_
  refine h F H σ _ E (p.seq fun y v F1 H1 g1 r1 p1 => ?_)
  cases y <;> try (exact (show False from p1).elim)
  rename_i z
  obtain rfl : v = .str z := by
    cases r1
    rfl
  have p2 : Post g (rD g.X.K g.C) F1 H1 σ Q (R.of (klook ps z)) := p1
  rcases kd_ns hT.v z with ⟨q1, q2⟩ | ⟨u, dd, q1, q2, q3⟩
  · rw [q2] at p2
    exact (show False from p2).elim
  · rw [q2] at p2
    obtain ⟨v, rv, rp⟩ := ktB_ok u dd q3
    exact ⟨d, z, v, rfl, rfl, ⟨es, n, u, D1.at_, D1.lit, q1, rv⟩, p2.here g1.fh (rp F1 g.C)⟩
end
/-! ## append, by a word of its own -/
def appD {β : Type} (xs : List D) (x : D) (k : List D → R β) : R β := if xs.length < lim then k (xs ++ [x]) else .un
section
variable {T S : Type} {g : G} {ζ : Ret T} {Γ : List Sl} {γ : S → List Sl} {e : Expr} {pos p1 p2 p3 : Pos} {sts : List Stmt}
theorem cb_appD (i : Nat) {n : Str} {xs : List D} {r : R D} {k : List D → R (Fl T S)} (h : CE g e Γ r) (h2 : ∀ ys, CB g ζ γ sts (Γ.set i (.l ys)) (k ys)) (hi : Γ[i]? = some (.l xs) := by rfl) (hN : g.X.N[i]? = some n := by rfl)
    (hv : Vis g.X.env.scope n := by first | exact Or.inl rfl | exact Or.inr (Or.inl rfl) | exact Or.inr (Or.inr rfl)) (hd : (n == ("__debug__" : Str)) = false := by decide) (hcd : (n == ("__classdict__" : Str)) = false := by decide)
    (hs : swapsWith (.Call (.Attribute (.Name n p1) "append" p2) [e] [] p3) none pos.line g.X.env = pure false := by rfl)
    (hbase : attributeBase (.Name n p1) "append" g.X.env (eval (.Name n p1) g.X.env) = eval (.Name n p1) g.X.env := by rfl)
    (hfew : ((backTo p3 (starEach [e] g.X.env)).all (fun x => !x.1) && (backToKw p3 (keywordEach [] g.X.env)).all (fun x => x.1.isSome) && decide (([e] : List Expr).length + ([] : List Keyword).length + (if ([] : List Keyword).isEmpty then 0 else 1) < 30)) = true := by rfl)
    (hline : (p2.endLine == p3.line) = true := by rfl) (hst : starEach [e] g.X.env = [(false, eval e g.X.env)] := by rfl) :
    CB g ζ γ (.Expr (.Call (.Attribute (.Name n p1) "append" p2) [e] [] p3) pos :: sts) Γ (r >>= fun x => appD xs x k) :=
  cb_append i (k := k) h h2 hi hN hv hd hcd hs hbase hfew hline hst
end
end DL
end
section
set_option Elab.async false
set_option linter.all false
set_option maxRecDepth 100000
set_option maxHeartbeats 2000000
set_option autoImplicit false
namespace DL
open PySem PySem.Spec PyProof.Rows L2
variable [TN]

/-! ## a lambda with one parameter that has a whole number as default, handed to a def that calls it without arguments -/
/-- the names of such a lambda: its parameter x0, captured ones, globals -/
structure LamSD (sc scope : Scope) (x0 : Str) (N : List Str) : Prop where
  kind : scope.kind = .function
  co : scope.isCoroutine = false
  gen : scope.isGenerator = false
  own : ∀ y ∈ scope.names, y.2 ≠ .cell
  loc : ∀ y ∈ scope.names, y.2 = .local → y.1 = x0
  x0l : scope.names.lookup x0 = some .local
  nN : x0 ∉ N
  free : ∀ y ∈ scope.names, y.2 = .free → sc.names.lookup y.1 = some .cell ∨ sc.names.lookup y.1 = some .free
def lamSDB (sc scope : Scope) (x0 : Str) (N : List Str) : Bool :=
  decide (scope.kind = .function) && !scope.isCoroutine && !scope.isGenerator && (scope.names.all fun y => !decide (y.2 = .cell) && (!decide (y.2 = .local) || decide (y.1 = x0)) && (!decide (y.2 = .free) || decide (sc.names.lookup y.1 = some .cell) || decide (sc.names.lookup y.1 = some .free)))
    && decide (scope.names.lookup x0 = some .local) && decide (x0 ∉ N)
theorem lamSD_by {sc scope : Scope} {x0 : Str} {N : List Str} (h : lamSDB sc scope x0 N = true) : LamSD sc scope x0 N := by
  unfold lamSDB at h
  simp only [Bool.and_eq_true, Bool.or_eq_true, Bool.not_eq_true', decide_eq_true_eq, decide_eq_false_iff_not, List.all_eq_true] at h
  obtain ⟨⟨⟨⟨⟨h1, h2⟩, h3⟩, h4⟩, h5⟩, h6⟩ := h
  refine ⟨h1, h2, h3, fun y hy => (h4 y hy).1.1, fun y hy e => ?_, h5, h6, fun y hy e => ?_⟩
  · rcases (h4 y hy).1.2 with z | z
    · exact absurd e z
    · exact z
  · rcases (h4 y hy).2 with (z | z) | z
    · exact absurd e z
    · exact .inl z
    · exact .inr z
theorem LamSD.has {X : Cx} {scope : Scope} {x0 : Str} {N : List Str} (L : LamSD X.env.scope scope x0 N) (ok : X.Ok) : ∀ y ∈ scope.names, y.2 = .free → ∃ c, X.env.cells.lookup y.1 = some c := fun y hy e => by
  rcases L.free y hy e with k | k
  · exact ok.has _ (.inl k)
  · exact ok.has _ (.inr k)
section
variable {X : Cx} {pins : List (Addr × Obj)} {σ : L2.St} {H HZ : Hp} {s s1 : Shared}
theorem lam_startD {A : Around} {outer : List PySem.Env} {E : XK} {scope : Scope} {f c' : Addr} {h₁ : Heap} {tk : Nat} {x0 : Str} {mm : Str → Option Value} (I : Inv X pins σ H s) (L : LamSD X.env.scope scope x0 X.N) (e0 : Env0 X.prog X.w X.K X.mg X.base A outer s1 HZ) (hd : A.handled = none)
    (un : Un (frs X.stack) [] H HZ s.heap s1.heap) (hns : h₁.Ns s1.heap.objs.size mm) (kp : ∀ b o, s1.heap.get? b = some o → h₁.get? b = some o) :
    Inv (LamX.lamCx X A outer s1 HZ E scope f c') [] σ HZ { s1 with heap := h₁, toks := tk } := by
  have hfree := L.has I.ok
  have cm : ∀ {y c}, (cloFrom X.env.cells scope.names []).lookup y = some c → X.env.cells.lookup y = some c := fun {y c} e => by
    rcases cloFrom_mem (PySem.mem_of_lookup e) with hm | ⟨h1, h2⟩
    · cases hm
    · obtain ⟨c1, hc⟩ := hfree _ h1 rfl
      have hc : X.env.cells.lookup y = some c1 := hc
      have e2 : c = c1 := by
        rw [h2, hc] <;> rfl
      rw [e2]
      exact hc
  have look : ∀ {y}, scope.names.lookup y = some .free → ∃ c, (cloFrom X.env.cells scope.names []).lookup y = some c := fun {y} hl => by
    have hy : (y, NameKind.free) ∈ scope.names := PySem.mem_of_lookup hl
    exact mem_lookup (cloFrom_has (cells := X.env.cells) (acc := []) hy)
  have cellK : ∀ {c : Addr} {v : Option Value}, H c = none → s.heap.IsCell c v → h₁.IsCell c v := fun {c v} n ⟨o, ho, hd⟩ => by
    obtain ⟨sl, q⟩ := un.any ho n (by simp)
    exact ⟨_, kp _ _ q, hd⟩
  have noA : ∀ b : Addr, b ∉ (LamX.lamCx X A outer s1 HZ E scope f c').ex := fun b z => absurd (show b ∈ ([] : List Addr) from z) (by simp)
  refine ⟨⟨e0.mod, L.kind, rfl, rfl, Nat.le_refl _, fun y z c e1 e2 => I.ok.inj y z c (cm e1) (cm e2), fun y hy => ?_, fun y c z _ => ?_, fun _ => hd, Around.frames_deeper e0.frames, .inr ⟨rfl, rfl⟩, fun b z => absurd z (noA b), e0.bs, e0.bsz, fun b _ _ => noA b,
      fun b z => absurd z (noA b), e0.funs, e0.frf⟩,
    rfl, e0.bare, Un.kept kp, ⟨_, hns, fun i y v e1 e2 e3 => ?_⟩, fun y c e => ?_, e0.hok.fresh (Nat.le_refl _), fun y c e => ?_, fun q hq => absurd (show q ∈ ([] : List (Addr × Obj)) ++ [] from hq) (by simp), e0.hok.kept kp, I.len⟩
  · have hy : scope.names.lookup y = some .cell ∨ scope.names.lookup y = some .free := hy
    rcases hy with hy | hy
    · exact absurd rfl (L.own _ (PySem.mem_of_lookup hy))
    · exact look hy
  · have z : false = true := z
    cases z
  · have e3 : Vis scope y := e3
    rcases e3 with k | k | k
    · have e1 : X.N[i]? = some y := e1
      exact absurd (show x0 ∈ X.N from (L.loc _ (PySem.mem_of_lookup k) rfl) ▸ List.mem_of_getElem? e1) L.nN
    · exact absurd rfl (L.own _ (PySem.mem_of_lookup k))
    · obtain ⟨m, hn, hl⟩ := I.loc
      have hvis : Vis X.env.scope y := (L.free _ (PySem.mem_of_lookup k) rfl).elim (fun k => .inr (.inl k)) (fun k => .inr (.inr k))
      obtain ⟨w', r, q⟩ := hl i y v e1 e2 hvis
      obtain ⟨c2, h2⟩ := look k
      refine ⟨w', r, .inr ⟨.inr k, c2, h2, ?_⟩⟩
      have c1 := cm h2
      rcases q with ⟨k', _⟩ | ⟨_, c3, e', z⟩
      · have k' : X.env.scope.names.lookup y = some .local := k'
        rcases L.free _ (PySem.mem_of_lookup k) rfl with k2 | k2 <;> rw [show X.env.scope.names.lookup y = _ from k2] at k' <;> cases k'
      · rw [c1] at e'
        cases e'
        exact cellK (I.freeC y _ c1) z
  · obtain ⟨w', z⟩ := I.cell y c (cm e)
    exact ⟨w', cellK (I.freeC y c (cm e)) z⟩
  · obtain ⟨v, o, ho, hd⟩ := I.cell y c (cm e)
    exact un.free c o ho (I.freeC y c (cm e)) (by simp)
/-- the lambda is made -/
theorem lam_mkD {c P : Addr} {params : Arguments} {body : Expr} {scope : Scope} {pos p0 : Pos} {i0 : Int} {j0 : Nat} {E : Value → Shared → Prop} {Q : Value → Shared → Prop} (I : Inv X pins σ H s) (TB : LamX.TabB X.base X.mg c P) (hcode : X.env.code = .ref c)
    (hm : (P, lq X) ∈ TN.T) (hT : LamX.Tabs TN.T H) (hdp : params.defaults = [.Constant (.int i0) j0 p0]) (hkd : params.kw_defaults = []) (hfree : ∀ y ∈ scope.names, y.2 = .free → ∃ c, X.env.cells.lookup y.1 = some c)
    (h : ∀ (f pd c' : Addr) (doc pm ctv u0 : Value) (H1 : Hp) (t : Shared), Inv X pins σ H1 t → Ex H H1 → TX H H1 → t.heap.get? f = some (PySem.W.kdv_obj "<lambda>" (lq X) params (.expr body) scope (cloFrom X.env.cells scope.names []) (.ref pd) doc pm c' ctv) → H1 f = none → f ∉ frs X.stack →
      t.heap.get? pd = some (PySem.W.kdv_tup [u0]) → H1 pd = none → pd ∉ frs X.stack → H1 c' = some (LamX.CodeO c' (lq X)) → Q (.ref f) t) :
    wpAny (model X.prog X.w) X.A (eval (.Lambda params body scope pos) X.env) Q E s := by
  obtain ⟨ps, hP, ht, ha⟩ := hT _ hm
  have clo := closure_ok hfree
  refine PySem.W.kdv_lam (by rw [hdp]; rfl) hkd ?_
  rw [hdp]
  refine PySem.W.kdv_all1 (thn ((pe_int (X := X) (i := i0) (j := j0) (pos := p0)).run pins s σ H (fun v H1 => H1 = H) I rfl) fun u0 t0 ⟨v, H0, I0, r0, eH⟩ => PySem.W.kdv_all0 ?_)
  subst eH
  rw [makeFunction_eq]
  simp only [List.zip_nil_right, List.filterMap_nil, List.isEmpty_nil, if_true, pure_bind, List.isEmpty_cons, Bool.false_eq_true, if_false]
  refine wpAny_bind (wpAny_newTextTuple ?_)
  have hpd : H0 t0.heap.objs.size = none := I0.hok.fresh (Nat.le_refl _)
  have out0 : ∀ f, t0.heap.objs.size ≤ f → f ∉ frs X.stack := fun f hf z => by
    rcases List.mem_cons.mp (I0.stkSub _ z) with e | e
    · have h1 := I0.lt
      rw [← e] at h1
      exact absurd hf (Nat.not_le_of_lt h1)
    · exact I0.nofs hf e
  have gpd : (t0.heap.push (PySem.W.kdv_tup [u0])).get? t0.heap.objs.size = some (PySem.W.kdv_tup [u0]) := Heap.get?_push_size _ rfl
  have opd := out0 _ (Nat.le_refl _)
  have szp : (t0.heap.push (PySem.W.kdv_tup [u0])).objs.size = t0.heap.objs.size + 1 := by rw [Heap.size_push]
  have I2 : Inv X pins σ H0 { t0 with heap := t0.heap.push (PySem.W.kdv_tup [u0]), toks := t0.toks } := I0.kept (t' := t0.toks) fun b o e => Heap.get?_push_of_some _ e
  generalize t0.heap.objs.size = pd at hpd gpd opd szp out0
  generalize hh2 : t0.heap.push (PySem.W.kdv_tup [u0]) = h2 at gpd szp I2 ⊢
  generalize hs2 : ({ t0 with heap := h2 } : Shared) = s2
  have I3 : Inv X pins σ H0 s2 := hs2 ▸ I2
  have gpd2 : s2.heap.get? pd = some (PySem.W.kdv_tup [u0]) := hs2 ▸ gpd
  have sz2 : s2.heap.objs.size = pd + 1 := by rw [← hs2]; exact szp
  have bIn : s2.heap.BuiltinsAt X.mg P := TB.bm.keeps I3.bk
  have pIn : s2.heap.get? P = some { cls := .none, data := .fields ps } := I3.hok P _ hP
  have out : ∀ f, s2.heap.objs.size ≤ f → f ∉ frs X.stack := fun f hf => out0 f (by rw [sz2] at hf; exact Nat.le_of_succ_le hf)
  cases hc : codeAmong pos ps.toList with
  | some cv =>
    obtain ⟨c', rfl, hco⟩ := ha pos cv hc
    refine PySem.W.kdv_makeTailHit (mg := X.mg) (c := c) (P := P) (ps := ps) clo I3.ok.glob (I3.mod.glob.keeps I3.bk) hcode (TB.code.keeps I3.bk) pIn ht hc bIn fun ctv doc h' tk hx hsz => ?_
    exact h h'.objs.size pd c' doc ((X.mg "__name__").getD .none) ctv u0 H0 _ (I3.kept (t' := tk) fun b o e => Heap.get?_push_of_some _ (hx b o e)) (Ex.refl H0) (TX.refl H0) (Heap.get?_push_size _ rfl) (I3.hok.fresh hsz) (out _ hsz) (Heap.get?_push_of_some _ (hx _ _ gpd2)) hpd opd hco
  | none =>
    refine PySem.W.kdv_makeTail (mg := X.mg) (c := c) (P := P) (ps := ps) clo I3.ok.glob (I3.mod.glob.keeps I3.bk) hcode (TB.code.keeps I3.bk) pIn ht hc TB.gP bIn fun c' ctv doc h' tk hx hge hlt hrec htb => ?_
    obtain ⟨c2, oc, vs, t, e2, hoc, hd, hv⟩ := hrec
    cases e2
    have hsz : s2.heap.objs.size ≤ h'.objs.size := Nat.le_trans hge (Nat.le_of_lt hlt)
    have nC : H0 c' = none := I3.hok.fresh hge
    have npP : pd ≠ P := ne_of_none hP hpd |>.symm
    have npc : pd ≠ c' := fun z => by
      rw [← z, sz2] at hge
      exact Nat.lt_irrefl _ hge
    refine h h'.objs.size pd c' doc ((X.mg "__name__").getD .none) ctv u0 _ _ (LamX.inv_table (t' := tk) I3 hP (fun b o hb e => Heap.get?_push_of_some _ (hx b o hb e)) (Heap.get?_push_of_some _ htb) hge ⟨oc, vs, t, Heap.get?_push_of_some _ hoc, hd, hv⟩)
      (table_ex hP nC) (table_tx hP nC ht hm) (Heap.get?_push_size _ rfl) ?_ (out _ hsz) (Heap.get?_push_of_some _ (hx _ _ npP gpd2)) ?_ opd upd_same
    · have n1 : h'.objs.size ≠ c' := Nat.ne_of_gt hlt
      have n2 : h'.objs.size ≠ P := Nat.ne_of_gt (Nat.lt_of_lt_of_le (Heap.lt_size pIn) hsz)
      rw [upd_ne n1, upd_ne n2]
      exact I3.hok.fresh hsz
    · rw [upd_ne npc, upd_ne npP]
      exact hpd
end
section
variable {X : Cx} {pins : List (Addr × Obj)} {σ : L2.St} {H : Hp} {s : Shared}
/-- a(), in the def that got the lambda as a -/
theorem deed_wD {Eg : XK} {Ng : List Str} {qg : Str} {sg : Scope} {ga f pd c' : Addr} {cdg doc pm ctv u0 : Value} {params : Arguments} {body : Expr} {scope : Scope} {k i : Nat} {a x0 : Str} {pn : List (Addr × Obj)} {xe : Value → Shared → Prop} {W : WX} {p1 p2 : Pos} {σZ : L2.St} {HZ : Hp} {Q : VK}
    (I : Inv X pins σ H s) (L : LamSD X.env.scope scope x0 X.N) (hf : s.heap.get? f = some (PySem.W.kdv_obj "<lambda>" (lq X) params (.expr body) scope (cloFrom X.env.cells scope.names []) (.ref pd) doc pm c' ctv)) (hfn : H f = none) (hfr : f ∉ frs X.stack)
    (hp : s.heap.get? pd = some (PySem.W.kdv_tup [u0])) (hpn : H pd = none) (hpr : pd ∉ frs X.stack)
    (hbind : ∃ k, bindArgs (PySem.W.kdv_fn "<lambda>" (lq X) params (.expr body) scope (cloFrom X.env.cells scope.names []) (.ref pd) doc pm (.ref c') ctv) ⟨[], []⟩ = seqItems? (.ref pd) >>= k ∧ k (some #[u0]) = pure [(x0, u0)])
    (tk : Takes ((cxOf C8.CX0 X.prog X.w X.K X.mg X.base Ng qg sg ga cdg X.A X.stack s H Eg).tr pn xe) W) (hr : Room (k + 1) (X.A.deeper (envOfC qg sg s.heap.objs.size ga cdg)))
    (hN : Ng[i]? = some a) (hv : Vis sg a) (hd : (a == ("__debug__" : Str)) = false) (hcd : (a == ("__classdict__" : Str)) = false)
    (hs : σZ[i]? = some (some (.ref f))) (hc : HZ c' = some (LamX.CodeO c' (lq X)))
    (hb : ∀ (A : Around) (outer : List PySem.Env) (t : Shared), Room k (A.deeper (LamX.lamEnv X scope t.heap.objs.size f c')) → wE (LamX.lamCx X A outer t HZ (WE W σZ) scope f c') body σ HZ Q) :
    wE ((cxOf C8.CX0 X.prog X.w X.K X.mg X.base Ng qg sg ga cdg X.A X.stack s H Eg).tr pn xe) (.Call (.Name a p1) [] [] p2) σZ HZ Q := by
  intro pinsZ sZ IZ
  refine wpAny_Call_Name_kw (thn ((pe_var (pos := p1) (i := i) hN hv hd hcd).run pinsZ sZ σZ HZ (fun v H1 => v = .ref f ∧ H1 = HZ) IZ ⟨.ref f, hs, rfl, rfl⟩) fun u t1 ⟨v, H1, I1, r1, ev, eH⟩ => ?_)
  subst ev
  rw [eH] at I1
  obtain rfl : u = Value.ref f := r1
  have lam : t1.heap.get? f = some (PySem.W.kdv_obj "<lambda>" (lq X) params (.expr body) scope (cloFrom X.env.cells scope.names []) (.ref pd) doc pm c' ctv) := I1.base.keep f _ hf hfn hfr (fun z => nomatch (show f ∈ ([] : List Addr) from z))
  have ptup : t1.heap.get? pd = some (PySem.W.kdv_tup [u0]) := I1.base.keep pd _ hp hpn hpr (fun z => nomatch (show pd ∈ ([] : List Addr) from z))
  have un : Un (frs X.stack) [] H HZ s.heap t1.heap := I1.base
  obtain ⟨⟨oc, vs, t, hoc, hdc, hvc⟩, _, _⟩ := I1.hok c' _ hc
  have rc : codeAny (model X.prog X.w) (X.A.deeper (envOfC qg sg s.heap.objs.size ga cdg)) (.call (.ref f) ⟨[], []⟩) (L2.CR (L2.CX X.prog X.w) (envOfC qg sg s.heap.objs.size ga cdg :: X.stack) X.prog X.w HZ t1 Q (WE W σZ)) t1 := by
    refine PySem.W.kla_callFunE hr.depth lam rfl L.co L.gen rfl ⟨c', oc, vs, t, rfl, hoc, hdc, hvc⟩ ?_
    obtain ⟨kk, hb1, hb2⟩ := hbind
    refine (BindsTo.of_defaults (binds := [(x0, u0)]) rfl ptup rfl hb1 hb2) _ _ _ _ ?_
    refine wpAny_newFunctionEnv (fun y hy => L.own y hy) (fun y hy => by
      have e : y = (x0, u0) := by simpa using hy
      rw [e]
      exact L.x0l) (fun h1 hns hsb => ⟨I1.nolimit.fresh _ hsb, ?_⟩) L.kind
    show codeAny _ _ (.expr body (LamX.lamEnv X scope t1.heap.objs.size f c')) _ _
    have kp : ∀ b o, t1.heap.get? b = some o → h1.get? b = some o := fun b o e => hsb.extBut b o (Nat.ne_of_lt (Heap.lt_size e)) (Heap.get?_push_of_some _ e)
    have J : Inv (LamX.lamCx X (X.A.deeper (envOfC qg sg s.heap.objs.size ga cdg)) (envOfC qg sg s.heap.objs.size ga cdg :: X.stack) t1 HZ (WE W σZ) scope f c') [] σ HZ { t1 with heap := h1, toks := t1.toks + ([(x0, u0)] : List (Str × Value)).length } :=
      lam_startD I L I1.env0 hr.hd un hns kp
    refine PySem.W.kla_codeExpr (wpAny_mono (hb _ _ t1 (hr.deeper _) [] _ J) (fun v t3 hq => ?_) fun e t3 hq => hq)
    obtain ⟨w', H', J', rv, q⟩ := hq
    exact ⟨w', H', J'.os, J'.bare, J'.base, J'.hok, rv, q⟩
  refine PySem.W.callWith_F0 ⟨_, _, _, _, lam⟩ (wpAny_call (codeAny_mono rc fun r t2 got => ?_))
  · cases r with
    | error e => exact passAt tk σZ pinsZ HZ t1 e t2 I1 got
    | ok fl =>
      cases fl with
      | ret u => exact I1.after got
      | _ => exact False.elim got
end
section
variable {g : G} {Γ : List Sl}
/-- x(lambda x0=i0: body), x a def of one parameter that calls it within a try: m makes of the body's result what x returns -/
theorem ce_toldD {x a : Str} {ga c P : Addr} {k : Nat} {pg : Arguments} {bg : List Stmt} {sg : Scope} {fd : FuncData} {Ng : List Str} {params : Arguments} {body : Expr} {scope : Scope} {p lpos pos : Pos} {r : R D} {i0 : Int} {j0 : Nat} {p0 : Pos} {x0 : Str} {m : R D → R D} {mb : R D → R (Fl D Unit)}
    (FD : FunD g.X.K x x pg bg sg [] [] ga fd) (hb : Binds g.X.K fd [a] []) (Sg : FnScope Ng [a] sg) (hNg : Ng[0]? = some a) (hm : g.X.mg x = some (.ref ga)) (TB : LamX.TabB g.X.base g.X.mg c P) (hcode : g.X.env.code = .ref c) (hmT : (P, lq g.X) ∈ TN.T)
    (hr : Room (k + 2) g.X.A) (L : LamSD g.X.env.scope scope x0 g.X.N) (hdp : params.defaults = [.Constant (.int i0) j0 p0]) (hkd : params.kw_defaults = [])
    (hbind : ∀ (q : Str) (cl : List (Str × Addr)) (pd : Addr) (doc pm cv ctv u0 : Value), ∃ k, bindArgs (PySem.W.kdv_fn "<lambda>" q params (.expr body) scope cl (.ref pd) doc pm cv ctv) ⟨[], []⟩ = seqItems? (.ref pd) >>= k ∧ k (some #[u0]) = pure [(x0, u0)])
    (hbody : ∀ A outer t H E f c', Room k (A.deeper (LamX.lamEnv g.X scope t.heap.objs.size f c')) → CE (gLam g A outer t H E scope f c') body Γ r)
    (em : m r = fin (mb r).calm) (htold : ∀ (cdg : Value) (s : Shared) (H F0 : Hp) (hT : LamX.Tabs TN.T H) (f : Addr), Deed (gTold g Ng x sg ga cdg s H F0 hT) a f r → CB (gTold g Ng x sg ga cdg s H F0 hT) (ζD g.X.K g.C) (fun _ : Unit => List.replicate Ng.length Sl.no) bg (.r f :: List.replicate (Ng.length - 1) Sl.no) (mb r))
    (hg : Gl g.X x := by rfl) (hdb : (x == ("__debug__" : Str)) = false := by decide) (hd : (a == ("__debug__" : Str)) = false := by decide) (hcd : (a == ("__classdict__" : Str)) = false := by decide) :
    CE g (.Call (.Name x p) [.Lambda params body scope lpos] [] pos) Γ (m r) := by
  refine .mk fun F H σ Q E post pins s I => ?_
  obtain ⟨oc, od, dV, kV, doc, pm, an, cdv, ct, osl, rfl, lk, hcg, _, _⟩ := FD.ex
  refine wpAny_Call_Name_kw (ld_glob I hg hm ?_ hdb)
  refine PySem.W.callWith_K (h₀ := g.X.base) I.ok.mod.kin FD.kp ?_ (by rfl) (by rfl)
  show wpAny _ _ (spliced ((false, eval (.Lambda params body scope lpos) g.X.env) :: backTo pos (starEach [] g.X.env))) _ _ s
  refine Calls.spliced_cons (lam_mkD I TB hcode hmT (g.tabs E.toBas) hdp hkd (L.has I.ok) fun f pd c' doc' pm' ctv u0 H1 s' I1 x1 t1 hf hfn hfr hp hpn hpr hco => Calls.spliced_nil ⟨I1.kIn, ?_⟩)
  have gr : Gr F H F H1 := ⟨Ex.refl _, x1, E.ef.trans x1, fun _ _ _ q => q, t1⟩
  have E1 : g.Env F H1 σ Γ := E.grow gr
  have hT1 : LamX.Tabs TN.T H1 := g.tabs E1.toBas
  have hva : Vis sg a := by
    rcases Sg.par a (List.mem_singleton_self a) with q | q
    · exact .inl q
    · exact .inr (.inl q)
  have nl : 1 ≤ Ng.length := (List.getElem?_eq_some_iff.mp hNg).1
  refine wpAny_call (codeAny_mono (LamX.run_ofS (N := Ng) (ps := [a]) (us := [.ref f]) (vs := [.ref f]) (CX := C8.CX0) (E := C8.E0) (Q := Q) lk hcg Sg hr I1.env0 (hb s' [.ref f] I1.kIn rfl) (.cons rfl .nil) rfl fun hr' => ⟨_, pss_w _ _, ?_⟩) fun r0 s2 got => ?_)
  · have deed : Deed (gTold g Ng x sg ga cdv s' H1 F hT1) a f r := fun pn xe W tk Γ2 p1 p2 h0 => .mk fun FZ HZ σZ QZ EZ pz => by
      obtain ⟨o, hσ, ho⟩ := EZ.sl 0 _ h0
      have ho' : o = some (.ref f) := ho
      subst ho'
      have grZ : Gr F H1 FZ HZ := ⟨EZ.e0, EZ.eb, EZ.ef, EZ.fr, EZ.tb⟩
      refine deed_wD I1 L hf hfn hfr hp hpn hpr (hbind _ _ _ _ _ _ _ _) tk hr' hNg hva hd hcd hσ (EZ.eb.at hco) fun A outer t hr2 => hbody A outer t HZ (WE W σZ) f c' hr2 FZ HZ σ QZ (E1.grow grZ) ?_
      cases r with
      | ok v => exact pz
      | ex c v => exact pz
      | un => exact pz
    have start1 : EnvOk g.X.K g.C H1 F F H1 (L2.start Ng [V.ref f]) (.r f :: List.replicate (Ng.length - 1) Sl.no) := by
      refine ⟨⟨Ex.refl _, Ex.refl _, E1.ef, fun _ _ _ q => q, TX.refl _⟩, by simp [L2.start], fun i t h => ?_, fun i j t u b n e1 e2 o1 o2 _ _ => ?_⟩
      · cases i with
        | zero =>
          cases h
          exact ⟨some (.ref f), rfl, rfl⟩
        | succ i =>
          have h' : (List.replicate (Ng.length - 1) Sl.no)[i]? = some t := h
          rw [List.getElem?_replicate] at h'
          split at h'
          · rename_i hi
            cases h'
            refine ⟨none, ?_, trivial⟩
            show (List.replicate (Ng.length - 1) none)[i]? = _
            rw [List.getElem?_replicate, if_pos hi]
          · cases h'
      · cases i with
        | zero =>
          cases e1
          exact absurd (show false = true from o1) Bool.false_ne_true
        | succ i =>
          have h' : (List.replicate (Ng.length - 1) Sl.no)[i]? = some t := e1
          rw [List.getElem?_replicate] at h'
          split at h'
          · cases h'
            exact absurd (show false = true from o1) Bool.false_ne_true
          · cases h'
    refine htold cdv s' H1 F hT1 f deed F H1 _ _ start1 ?_
    have post1 : Post g (rD g.X.K g.C) F H1 σ Q (fin (mb r).calm) := by
      rw [← em]
      exact post.mono gr
    have fin0 : ∀ {F' H' : Hp}, Bas H1 F F' H' → Gr F H1 F' H' := fun b => ⟨b.e0, b.eb, b.ef, b.fr, b.tb⟩
    cases q : mb r with
    | ok fl =>
      rw [q] at post1
      cases fl with
      | nx u => exact fun σ' F' H' x E' => post1 _ F' H' (fin0 E'.toBas) .non
      | rt d => exact fun v F' H' b rv => post1 v F' H' (fin0 b) rv
    | ex c x =>
      rw [q] at post1
      exact (show False from post1).elim
    | un =>
      rw [q] at post1
      exact post1
  · cases r0 with
    | error e => exact (show False from got).elim
    | ok fl =>
      cases fl with
      | ret u => exact I1.after got
      | _ => exact False.elim got
end
end DL
end
section
set_option Elab.async false
set_option linter.all false
set_option maxRecDepth 100000
set_option maxHeartbeats 2000000
set_option autoImplicit false
namespace DL
open PySem PySem.Spec PyProof.Rows L2
variable [TN]
section
variable {T S : Type} {g : G} {ζ : Ret T} {Γ : List Sl} {γ : S → List Sl} {e b c : Expr} {a : Addr} {s : DK} {pos p1 p2 p3 : Pos} {st : Stmt} {sts : List Stmt} {Dn : Ends}
/-- x, y = (e, e'), data, by a tuple (names that inner scopes read); both may change the state -/
theorem cb_parSC (l i j : Nat) {n m : Str} {kt k2 : Nat} {tp tp2 : Pos} {ra : R (D × DK)} {rb : DK → R (D × DK)} {k : D → D → DK → R (Fl T S)} (ha : CES g a b Γ ra) (hb : ∀ s', CES g a c (Γ.set l (.k a s')) (rb s')) (h2 : ∀ x y s', CB g ζ γ sts (((Γ.set l (.k a s')).set i (.d x)).set j (.d y)) (k x y s')) (hc : g.X.calm = true)
    (nd : g.X.N.Nodup) (hll : l < Γ.length) (hk : Γ[l]? = some (.k a s) := by rfl) (hN : g.X.N[i]? = some n := by rfl) (hx : Loc g.X.env.scope n := by first | exact Or.inl rfl | exact Or.inr rfl) (hf : g.X.fn n = true ∨ g.X.env.scope.names.lookup n = some .local := by first | exact .inl rfl | exact .inr rfl)
    (hj : g.X.N[j]? = some m := by rfl) (hy : Loc g.X.env.scope m := by first | exact Or.inl rfl | exact Or.inr rfl) (hf2 : g.X.fn m = true ∨ g.X.env.scope.names.lookup m = some .local := by first | exact .inl rfl | exact .inr rfl)
    (s1 : (assignEach [.Name n p1, .Name m p2] g.X.env).map (·.2) = assign (.Name n p1) g.X.env :: (assignEach [.Name m p2] g.X.env).map (·.2) := by rfl) (s2 : (assignEach [.Name m p2] g.X.env).map (·.2) = assign (.Name m p2) g.X.env :: (assignEach [] g.X.env).map (·.2) := by rfl)
    (hn : (assignEach [.Name n p1, .Name m p2] g.X.env).length = 2 := by rfl) (hst : (assignEach [.Name n p1, .Name m p2] g.X.env).findIdx? (·.1) = none := by rfl)
    (hs1 : swapsWithSole [.Tuple [.Name n p1, .Name m p2] kt tp] (.Tuple [b, c] k2 tp2) pos.line g.X.env = pure false := by rfl) (hs2 : swappedStores [.Tuple [.Name n p1, .Name m p2] kt tp] (.Tuple [b, c] k2 tp2) g.X.env = pure none := by rfl) (hs3 : (assignEach [.Tuple [.Name n p1, .Name m p2] kt tp] g.X.env).map (·.2) = [assign (.Tuple [.Name n p1, .Name m p2] kt tp) g.X.env] := by rfl)
    (t1 : starEach [b, c] g.X.env = (false, eval b g.X.env) :: starEach [c] g.X.env := by rfl) (t2 : starEach [c] g.X.env = [(false, eval c g.X.env)] := by rfl) :
    CB g ζ γ (.Assign [.Tuple [.Name n p1, .Name m p2] kt tp] (.Tuple [b, c] k2 tp2) pos :: sts) Γ (bnd ra fun x t => bnd (rb t) fun y t => k x y t) := .mk fun F H σ Dn E p => by
  refine wB_of (pss_cons (ps_asg (pe_tup (pa_cons (pe_w _ b) (pa_cons (pe_w _ c) pa_nil t2) t1)) (pg_tup hc (pgs_cons (pg_name nd hN hx hf) (pgs_cons (pg_name nd hj hy hf2) pgs_nil s2) s1) hn hst) hs1 hs2 hs3) (pss_w _ sts)) ?_
  refine ha F H σ _ E (PostS.exprT (k := fun x t => rb t >>= fun u => k x u.1 u.2) hk E p fun x s1 v F1 H1 g1 r1 E1 p' => ?_)
  have hk1 : (Γ.set l (.k a s1))[l]? = some (.k a s1) := by rw [List.getElem?_set_self hll]
  refine hb s1 F1 H1 σ _ E1 (PostS.exprT (k := fun y t => k x y t) hk1 E1 p' fun y s2 w F2 H2 g2 r2 E2 p2 => ?_)
  rw [List.set_set] at E2
  refine ⟨by show 2 ≤ _; decide, fun tq hq => ?_⟩
  have g3 : Gr F2 H2 F2 (upd H2 tq (.tup [v, w])) := Gr.own g2.fh hq
  have E3 := E2.grow g3
  exact ⟨_, _, rfl, SqT.of upd_same, rfl, _, _, rfl, _, _, rfl, rfl, h2 x y s2 F2 _ _ Dn ((EnvOk.set_d E3 i (Rp.mono g2.f r1)).set_d j r2) p2⟩
/-- .. without the state -/
theorem cb_parC (i j : Nat) {n m : Str} {kt k2 : Nat} {tp tp2 : Pos} {ra rb : R D} {k : D → D → R (Fl T S)} (ha : CE g b Γ ra) (hb : CE g c Γ rb) (h2 : ∀ x y, CB g ζ γ sts ((Γ.set i (.d x)).set j (.d y)) (k x y)) (hc : g.X.calm = true)
    (nd : g.X.N.Nodup) (hN : g.X.N[i]? = some n := by rfl) (hx : Loc g.X.env.scope n := by first | exact Or.inl rfl | exact Or.inr rfl) (hf : g.X.fn n = true ∨ g.X.env.scope.names.lookup n = some .local := by first | exact .inl rfl | exact .inr rfl)
    (hj : g.X.N[j]? = some m := by rfl) (hy : Loc g.X.env.scope m := by first | exact Or.inl rfl | exact Or.inr rfl) (hf2 : g.X.fn m = true ∨ g.X.env.scope.names.lookup m = some .local := by first | exact .inl rfl | exact .inr rfl)
    (s1 : (assignEach [.Name n p1, .Name m p2] g.X.env).map (·.2) = assign (.Name n p1) g.X.env :: (assignEach [.Name m p2] g.X.env).map (·.2) := by rfl) (s2 : (assignEach [.Name m p2] g.X.env).map (·.2) = assign (.Name m p2) g.X.env :: (assignEach [] g.X.env).map (·.2) := by rfl)
    (hn : (assignEach [.Name n p1, .Name m p2] g.X.env).length = 2 := by rfl) (hst : (assignEach [.Name n p1, .Name m p2] g.X.env).findIdx? (·.1) = none := by rfl)
    (hs1 : swapsWithSole [.Tuple [.Name n p1, .Name m p2] kt tp] (.Tuple [b, c] k2 tp2) pos.line g.X.env = pure false := by rfl) (hs2 : swappedStores [.Tuple [.Name n p1, .Name m p2] kt tp] (.Tuple [b, c] k2 tp2) g.X.env = pure none := by rfl) (hs3 : (assignEach [.Tuple [.Name n p1, .Name m p2] kt tp] g.X.env).map (·.2) = [assign (.Tuple [.Name n p1, .Name m p2] kt tp) g.X.env] := by rfl)
    (t1 : starEach [b, c] g.X.env = (false, eval b g.X.env) :: starEach [c] g.X.env := by rfl) (t2 : starEach [c] g.X.env = [(false, eval c g.X.env)] := by rfl) :
    CB g ζ γ (.Assign [.Tuple [.Name n p1, .Name m p2] kt tp] (.Tuple [b, c] k2 tp2) pos :: sts) Γ (ra >>= fun x => rb >>= fun y => k x y) := .mk fun F H σ Dn E p => by
  refine wB_of (pss_cons (ps_asg (pe_tup (pa_cons (pe_w _ b) (pa_cons (pe_w _ c) pa_nil t2) t1)) (pg_tup hc (pgs_cons (pg_name nd hN hx hf) (pgs_cons (pg_name nd hj hy hf2) pgs_nil s2) s1) hn hst) hs1 hs2 hs3) (pss_w _ sts)) ?_
  refine ha F H σ _ E (p.expr E fun x v F1 H1 g1 r1 E1 p' => hb F1 H1 σ _ E1 (p'.expr E1 fun y w F2 H2 g2 r2 E2 p2 => ?_))
  refine ⟨by show 2 ≤ _; decide, fun tq hq => ?_⟩
  have g3 : Gr F2 H2 F2 (upd H2 tq (.tup [v, w])) := Gr.own g2.fh hq
  have E3 := E2.grow g3
  exact ⟨_, _, rfl, SqT.of upd_same, rfl, _, _, rfl, _, _, rfl, rfl, h2 x y F2 _ _ Dn ((EnvOk.set_d E3 i (Rp.mono g2.f r1)).set_d j r2) p2⟩
end
/-! ## a list beside an empty one: nothing of its items is looked at -/
section
variable {X : Cx} {C : Ctab}
def lnilE (xs ys : List D) : Option D := if ys.isEmpty = true then some (.bl xs.isEmpty) else none
def lnilN (xs ys : List D) : Option D := if ys.isEmpty = true then some (.bl (!xs.isEmpty)) else none
def rNilE (K : PySem.W.Frag) : R2 := fun x y H Q => ∃ l b xs, x = .ref l ∧ y = .ref b ∧ SqL K H l xs ∧ H b = some (.lst []) ∧ Q (.bl xs.isEmpty) H
def rNilN (K : PySem.W.Frag) : R2 := fun x y H Q => ∃ l b xs, x = .ref l ∧ y = .ref b ∧ SqL K H l xs ∧ H b = some (.lst []) ∧ Q (.bl (!xs.isEmpty)) H
theorem op_nilE (hu : X.A.units + 64 < cLine) : OpR X (compareOp .Eq) (rNilE X.K) := by
  intro pins s σ H x y v u Q I rx ry h
  obtain ⟨l, b, xs, rfl, rfl, hH, hB, q⟩ := h
  cases rx
  cases ry
  obtain ⟨its, r, hl, _⟩ := I.list hH
  obtain ⟨its2, r2, hl2, _⟩ := I.list (SqL.of (K := X.K) hB)
  have e2 : its2 = [] := List.length_eq_zero_iff.mp r2.length.symm
  subst e2
  have hu' : X.A.units < cLine := by omega
  cases xs with
  | nil =>
    have e1 : its = [] := List.length_eq_zero_iff.mp r.length.symm
    subst e1
    exact SeqAt.eq_listAt (e := fun _ => true) (hl.isList) (hl2.isList) rfl hu' (fun j h1 _ => absurd h1 (by simp)) ⟨.bl _, H, I, rfl, q⟩
  | cons z zs =>
    refine SeqAt.eq_list_lengthsAt (hl.isList) (hl2.isList) ?_ hu' ⟨.bl _, H, I, rfl, q⟩
    have e1 : its.length = zs.length + 1 := r.length.symm
    simp [e1]
theorem op_nilN (hu : X.A.units + 64 < cLine) : OpR X (compareOp .NotEq) (rNilN X.K) := by
  intro pins s σ H x y v u Q I rx ry h
  obtain ⟨l, b, xs, rfl, rfl, hH, hB, q⟩ := h
  cases rx
  cases ry
  obtain ⟨its, r, hl, _⟩ := I.list hH
  obtain ⟨its2, r2, hl2, _⟩ := I.list (SqL.of (K := X.K) hB)
  have e2 : its2 = [] := List.length_eq_zero_iff.mp r2.length.symm
  subst e2
  have hu' : X.A.units < cLine := by omega
  cases xs with
  | nil =>
    have e1 : its = [] := List.length_eq_zero_iff.mp r.length.symm
    subst e1
    exact SeqAt.RcNeAt.lists (e := fun _ => true) (hl.isList) (hl2.isList) rfl hu' (fun j h1 _ => absurd h1 (by simp)) _ _ _ _ ⟨.bl _, H, I, rfl, q⟩
  | cons z zs =>
    refine SeqAt.RcNeAt.lists_lengths (hl.isList) (hl2.isList) ?_ hu' _ _ _ _ ⟨.bl _, H, I, rfl, q⟩
    have e1 : its.length = zs.length + 1 := r.length.symm
    simp [e1]
theorem od_nilE (hu : X.A.units + 64 < cLine) : OpD X (compareOp .Eq) (rM X.K C) (rN X.K C) (rD X.K C) lnilE := by
  refine ⟨_, op_nilE hu, fun F H H0 H1 x y dx dy Q e r1 r2 p => ?_⟩
  unfold lnilE at p
  cases dy with
  | cons z zs => exact (show False from p).elim
  | nil =>
    obtain ⟨p1, vs, rfl, h1, a1⟩ := r1
    obtain ⟨p2, ws, rfl, _, _, h2, a2⟩ := r2
    have e2 : ws = [] := List.length_eq_zero_iff.mp a2.length
    subst e2
    refine ⟨p1, p2, vs, rfl, rfl, SqL.of h1, h2, ?_⟩
    have e3 : vs.isEmpty = dx.isEmpty := by cases a1 <;> rfl
    rw [e3]
    exact fin_here p e (.bl _)
theorem od_nilN (hu : X.A.units + 64 < cLine) : OpD X (compareOp .NotEq) (rM X.K C) (rN X.K C) (rD X.K C) lnilN := by
  refine ⟨_, op_nilN hu, fun F H H0 H1 x y dx dy Q e r1 r2 p => ?_⟩
  unfold lnilN at p
  cases dy with
  | cons z zs => exact (show False from p).elim
  | nil =>
    obtain ⟨p1, vs, rfl, h1, a1⟩ := r1
    obtain ⟨p2, ws, rfl, _, _, h2, a2⟩ := r2
    have e2 : ws = [] := List.length_eq_zero_iff.mp a2.length
    subst e2
    refine ⟨p1, p2, vs, rfl, rfl, SqL.of h1, h2, ?_⟩
    have e3 : vs.isEmpty = dx.isEmpty := by cases a1 <;> rfl
    rw [e3]
    exact fin_here p e (.bl _)
end
end DL
end
section
set_option Elab.async false
set_option linter.all false
set_option maxRecDepth 100000
set_option maxHeartbeats 2000000
set_option autoImplicit false
/-! a < b of tuples of data: their items are compared up to the first that differ alone. -/
namespace DL
open PySem PySem.Spec PyProof.Rows L2
open SeqAt AutoSeq1 MeetsSeq MeetsSeq2 MeetsSeq3 SeqRoads2
section
variable (A : Around) (s : Shared) (xs ys : Array Value) (res : Bool)
/-- from the place i on, xs < ys is res -/
inductive LtFrom : Nat → Prop
  | fin {i : Nat} : min xs.size ys.size ≤ i → res = decide (xs.size < ys.size) → LtFrom i
  | eq {i : Nat} (h1 : i < xs.size) (h2 : i < ys.size) : EqAt A.in1 s xs[i] ys[i] true → LtFrom (i + 1) → LtFrom i
  | ne {i : Nat} (h1 : i < xs.size) (h2 : i < ys.size) : EqAt A.in1 s xs[i] ys[i] false → RcLt A.in1 s xs[i] ys[i] res → LtFrom i
end
theorem tuple_ltF (p q : Addr) (xs ys : Array Value) (m m2 : Nat) (d1 d2 : Option Addr) (u1 u2 : Array (Option Value)) (res : Bool) :
    Meets (Builtin.«tuple.__lt__» ⟨[.ref p, .ref q], []⟩)
      (fun A R s => s.heap.get? p = some { cls := .type "tuple", dict := d1, data := .seq xs m, slots := u1 } ∧ s.heap.get? q = some { cls := .type "tuple", dict := d2, data := .seq ys m2, slots := u2 } ∧ LtFrom A s xs ys res 0 ∧ R (.ok (.ret (.bool res))) s) :=
  .of_wp fun prog w A R s hyp => by
    obtain ⟨hp, g, d, tk, os⟩ := s
    obtain ⟨hl, hb, from0, fin⟩ := hyp
    have sub1 := AutoSeq1.sub_tuple_tuple
    have lenZ : (xs.toList.zip ys.toList).length = min xs.size ys.size := by simp
    wp_walk using wpAny_loadPart' hl, wpAny_loadPart' hb, wpAny_forIn_list _ (fun more z s' => z.1 = none ∧ s' = ⟨hp, g, d, tk, os⟩ ∧ ∃ i, more = (xs.toList.zip ys.toList).drop i ∧ LtFrom A ⟨hp, g, d, tk, os⟩ xs ys res i) _
    case turn =>
      rintro ⟨a, c⟩ more z s' ⟨hz1, rfl, i, hz, hF⟩
      have hi : i < (xs.toList.zip ys.toList).length := by
        rcases Nat.lt_or_ge i (xs.toList.zip ys.toList).length with lt | ge
        · exact lt
        · rw [List.drop_of_length_le ge] at hz
          cases hz
      have him : i < min xs.size ys.size := lenZ ▸ hi
      rw [List.drop_eq_getElem_cons hi] at hz
      injection hz with hac hmore
      cases hF with
      | fin le _ => exact absurd him (Nat.not_lt_of_le le)
      | eq h1 h2 he hn =>
        have ha : a = xs[i] := by
          have := congrArg Prod.fst hac
          simpa using this
        have hc : c = ys[i] := by
          have := congrArg Prod.snd hac
          simpa using this
        subst ha hc
        refine wpAny_bind (he prog w _ _ ?_)
        wp_walk
        exact ⟨rfl, rfl, i + 1, hmore, hn⟩
      | ne h1 h2 he hr =>
        have ha : a = xs[i] := by
          have := congrArg Prod.fst hac
          simpa using this
        have hc : c = ys[i] := by
          have := congrArg Prod.snd hac
          simpa using this
        subst ha hc
        refine wpAny_bind (he prog w _ _ ?_)
        simp only [Bool.not_false, if_true]
        refine wpAny_bind (wpAny_rule (wpAny_bind (hr prog w _ _ ?_)))
        wp_walk
        exact ⟨_, rfl, fin⟩
    case fin =>
      rintro ⟨z1, z2⟩ s' ⟨hz1, rfl, i, hz, hF⟩
      simp only at hz1
      subst hz1
      have ge : min xs.size ys.size ≤ i := by
        rcases Nat.lt_or_ge i (xs.toList.zip ys.toList).length with lt | ge
        · rw [List.drop_eq_getElem_cons lt] at hz
          cases hz
        · exact lenZ ▸ ge
      have hres : res = decide (xs.size < ys.size) := by
        cases hF with
        | fin _ e => exact e
        | eq h1 h2 _ _ => omega
        | ne h1 h2 _ _ => omega
      rw [hres] at fin
      wp_walk
      exact ⟨_, rfl, by simpa [Builtin.Tuple.tupleCompareSizes] using fin⟩
    case h => exact ⟨rfl, rfl, 0, rfl, from0⟩
theorem rcLt_tupF {A : Around} {s : Shared} {p q : Addr} {xs ys : Array Value} {res : Bool} (hl : s.heap.IsTuple p xs) (hb : s.heap.IsTuple q ys) (hu : A.units < cLine) (h : LtFrom A s xs ys res 0) : RcLt A s (.ref p) (.ref q) res := fun prog w E Q done => by
  obtain ⟨⟨c1, d1, o1, u1⟩, ho, hc, m, hd⟩ := id hl
  obtain ⟨⟨c2, d2, o2, u2⟩, ho2, hc2, m2, hd2⟩ := id hb
  simp only at hc hd hc2 hd2
  subst hc hd hc2 hd2
  exact richCompare_meets_room (op := .Lt) ⟨_, ho, rfl⟩ ⟨_, ho2, rfl⟩ F.slot_tuple_lt F.entry_tuple_lt (F.args_tuple_lt_2 _ _) (tuple_ltF p q xs ys m m2 d1 d2 u1 u2 res)
    ⟨ho, ho2, h, show Value.bool res ≠ Value.notImplemented ∧ Q (.bool res) s from ⟨(fun z => nomatch z), done⟩⟩ hu
mutual
/-- p < q, as far as it is looked at -/
def ltP : PyData → PyData → Option Bool
  | .int i, .int j => some (decide (i < j))
  | .str a, .str b => some (decide (a.cps.toList < b.cps.toList))
  | .tuple xs, .tuple ys => ltPA xs ys
  | _, _ => none
def ltPA : List PyData → List PyData → Option Bool
  | [], [] => some false
  | [], _ :: _ => some true
  | _ :: _, [] => some false
  | x :: xs, y :: ys => match PyData.eqv x y with
    | true => ltPA xs ys
    | false => ltP x y
end
theorem ltFrom_of {A : Around} {s : Shared} {xs ys : Array Value} {res : Bool} {n : Nat} (hu : A.units + n < cLine)
    (ih : ∀ (p q : PyData) (a b : Value) (as bs : List Addr) (r : Bool), p.depth ≤ n → Reads s.heap a p as → Reads s.heap b q bs → p.canLay0 = true → q.canLay0 = true → ltP p q = some r → RcLt A.in1 s a b r)
    (ie : ∀ (p q : PyData) (a b : Value) (as bs : List Addr), p.depth ≤ n → Reads s.heap a p as → Reads s.heap b q bs → p.canLay0 = true → q.canLay0 = true → EqAt A.in1 s a b (PyData.eqv p q)) :
    ∀ (ps qs : List PyData) (i : Nat) (as bs : List Addr), ReadsAll s.heap (xs.toList.drop i) ps as → ReadsAll s.heap (ys.toList.drop i) qs bs → PyData.canLayAll0 ps = true → PyData.canLayAll0 qs = true → PyData.depthAll ps ≤ n → i ≤ xs.size → i ≤ ys.size → ltPA ps qs = some res → LtFrom A s xs ys res i := by
  have len : ∀ {vs : List Value} {ps : List PyData} {as : List Addr}, ReadsAll s.heap vs ps as → vs.length = ps.length := fun {vs ps as} h => by
    induction ps generalizing vs as with
    | nil => cases h; rfl
    | cons p ps ih =>
      cases h with
      | cons _ r => exact congrArg (· + 1) (ih r)
  intro ps
  induction ps with
  | nil =>
    intro qs i as bs r1 r2 _ _ _ hx hy h
    have l1 := len r1
    have l2 := len r2
    rw [List.length_drop] at l1 l2
    have e1 : xs.size = i := by
      have : xs.toList.length = xs.size := by simp
      simp only [List.length_nil] at l1
      omega
    refine .fin (by omega) ?_
    cases qs with
    | nil =>
      have : ys.toList.length = ys.size := by simp
      simp only [List.length_nil] at l2
      cases h
      exact (decide_eq_false (by omega)).symm
    | cons q qs =>
      have : ys.toList.length = ys.size := by simp
      simp only [List.length_cons] at l2
      cases h
      exact (decide_eq_true (by omega)).symm
  | cons p ps go =>
    intro qs i as bs r1 r2 c1 c2 hd hx hy h
    have l1 := len r1
    rw [List.length_drop] at l1
    have s1 : xs.toList.length = xs.size := by simp
    have s2 : ys.toList.length = ys.size := by simp
    simp only [List.length_cons] at l1
    have h1 : i < xs.size := by omega
    cases qs with
    | nil =>
      have l2 := len r2
      rw [List.length_drop] at l2
      simp only [List.length_nil] at l2
      cases h
      exact .fin (by omega) (decide_eq_false (by omega)).symm
    | cons q qs =>
      have l2 := len r2
      rw [List.length_drop] at l2
      simp only [List.length_cons] at l2
      have h2 : i < ys.size := by omega
      have d1 : xs.toList.drop i = xs[i] :: xs.toList.drop (i + 1) := by
        rw [List.drop_eq_getElem_cons (by omega)]
        simp
      have d2 : ys.toList.drop i = ys[i] :: ys.toList.drop (i + 1) := by
        rw [List.drop_eq_getElem_cons (by omega)]
        simp
      rw [d1] at r1
      rw [d2] at r2
      have c1' : p.canLay0 = true ∧ PyData.canLayAll0 ps = true := by simpa [PyData.canLayAll0] using c1
      have c2' : q.canLay0 = true ∧ PyData.canLayAll0 qs = true := by simpa [PyData.canLayAll0] using c2
      have hd' : max p.depth (PyData.depthAll ps) ≤ n := hd
      cases r1 with
      | cons ra ra' =>
        cases r2 with
        | cons rb rb' =>
          have e := ie p q _ _ _ _ (by omega) ra rb c1'.1 c2'.1
          unfold ltPA at h
          cases q1 : PyData.eqv p q with
          | true =>
            rw [q1] at h e
            exact .eq h1 h2 e (go qs (i + 1) _ _ ra' rb' c1'.2 c2'.2 (by omega) (by omega) (by omega) h)
          | false =>
            rw [q1] at h e
            exact .ne h1 h2 e (ih p q _ _ _ _ res (by omega) ra rb c1'.1 c2'.1 h)
theorem rcLt_data : ∀ (n : Nat) (p q : PyData) (A : Around) (s : Shared) (a b : Value) (as bs : List Addr) (r : Bool), p.depth ≤ n → A.units + n < cLine → Reads s.heap a p as → Reads s.heap b q bs → p.canLay0 = true → q.canLay0 = true → ltP p q = some r → RcLt A s a b r := by
  intro n
  induction n with
  | zero =>
    intro p q A s a b as bs r hd hu ra rb ca cb h
    cases ra <;> cases rb <;> first | (cases h; done) | skip
    · cases h
      exact fun prog w E Q hq => lt_int hq
    · cases h
      exact fun prog w E Q hq => lt_str hq
    · exact absurd hd (by simp [PyData.depth])
  | succ n ihn =>
    intro p q A s a b as bs r hd hu ra rb ca cb h
    cases ra <;> cases rb <;> first | (cases h; done) | skip
    · cases h
      exact fun prog w E Q hq => lt_int hq
    · cases h
      exact fun prog w E Q hq => lt_str hq
    · rename_i o vs m xs h1 h2 h3 h4 a2 o2 vs2 m2 ys g1 g2 g3 g4
      have u1 : A.in1.units = A.units + 1 := rfl
      have ca' : PyData.canLayAll0 xs = true := ca
      have cb' : PyData.canLayAll0 ys = true := cb
      have hd' : PyData.depthAll xs + 1 ≤ n + 1 := hd
      refine rcLt_tupF ⟨_, h1, h2, _, h3⟩ ⟨_, g1, g2, _, g3⟩ (by omega) (ltFrom_of (n := n) (by omega) (fun p q a b as bs r hp ra rb ca cb h => ihn p q A.in1 s a b as bs r hp (by rw [u1]; omega) ra rb ca cb h)
        (fun p q a b as bs hp ra rb ca cb => eqAt_reads p q A.in1 s a b as bs ra rb ca cb (by rw [u1]; omega)) xs ys 0 _ _ (by simpa using h4) (by simpa using g4) ca' cb' (by omega) (Nat.zero_le _) (Nat.zero_le _) h)
section
variable [TN] {X : Cx} {C : Ctab}
def D.ltT (x y : D) : Option D := match x.okPy, y.okPy with
  | some p, some q => (ltP p q).map D.bl
  | _, _ => none
def rLtP (K : PySem.W.Frag) : R2 := fun x y H Q => ∃ p q r, Dp K H x p ∧ Dp K H y q ∧ SeqAt.shaped p = true ∧ SeqAt.shaped q = true ∧ ltP p q = some r ∧ Q (.bl r) H
theorem op_ltP (hu : X.A.units + 64 < cLine) : OpR X (compareOp .Lt) (rLtP X.K) := by
  intro pins s σ H x y v u Q I rx ry h
  obtain ⟨p, q, r, hd, he, sd, se, hr, hq⟩ := h
  obtain ⟨as, r1⟩ := Dp.reads I p x v hd rx
  obtain ⟨bs, r2⟩ := Dp.reads I q y u he ry
  exact rcLt_data 64 p q X.A s v u as bs r (SeqAt.depth_of_shaped sd) hu r1 r2 (SeqAt.canLay_of_shaped sd) (SeqAt.canLay_of_shaped se) hr X.prog X.w _ _ ⟨.bl _, H, I, rfl, hq⟩
theorem od_ltT (hu : X.A.units + 64 < cLine) : OpD X (compareOp .Lt) (rD X.K C) (rD X.K C) (rD X.K C) D.ltT := by
  refine ⟨_, op_ltP hu, fun F H H0 H1 x y dx dy Q e r1 r2 p => ?_⟩
  unfold D.ltT at p
  cases q1 : dx.okPy with
  | none =>
    rw [q1] at p
    exact (show False from p).elim
  | some a =>
    cases q2 : dy.okPy with
    | none =>
      rw [q1, q2] at p
      exact (show False from p).elim
    | some b =>
      rw [q1, q2] at p
      cases q3 : ltP a b with
      | none =>
        have p' : PostV (rD X.K C) F H Q ((ltP a b).map D.bl) := p
        rw [q3] at p'
        exact (show False from p').elim
      | some r =>
        have p' : PostV (rD X.K C) F H Q ((ltP a b).map D.bl) := p
        rw [q3] at p'
        have r1' : Rp X.K C F x dx := r1
        have r2' : Rp X.K C F y dy := r2
        exact ⟨a, b, r, Rp.dp (r1'.mono e) (okPy_of q1).1, Rp.dp (r2'.mono e) (okPy_of q2).1, (okPy_of q1).2, (okPy_of q2).2, q3, fin_here p' e (.bl _)⟩
end
end DL
end
section
set_option Elab.async false
set_option linter.all false
set_option maxRecDepth 100000
set_option maxHeartbeats 2000000
set_option autoImplicit false
namespace DL
open PySem PySem.Spec PyProof.Rows L2
variable [TN]
/-! ## xs.extend(e), e a tuple -/
def D.asT : D → Option (List D)
  | .tup l => some l
  | _ => none
def extD {β : Type} (xs ys : List D) (k : List D → R β) : R β := if xs.length + ys.length ≤ lim then k (xs ++ ys) else .un
section
open AutoSeq1 SeqAt MeetsSeq MeetsSeq2 MeetsSeq3 SeqRoads2
theorem list_extend_tupF (p q : Addr) (xs ys : Array Value) (m m2 : Nat) (d2 : Option Addr) (u2 : Array (Option Value)) (h0 : ¬(!xs.isEmpty && Builtin.List.listTooLong (xs.size + ys.size)) = true) (h1 : xs.size ≤ sizeLine) (h2 : xs.size + ys.size ≤ sizeLine + 1) :
    Meets (Builtin.«list.extend» ⟨[.ref p, .ref q], []⟩) (fun _ R s => s.heap.get? p = some { cls := .type "list", dict := none, data := .seq xs m, slots := #[] } ∧ s.heap.get? q = some { cls := .type "tuple", dict := d2, data := .seq ys m2, slots := u2 } ∧
      R (.ok (.ret Value.none)) { s with heap := s.heap.update p (Obj.mapSeq fun x => x ++ ys), toks := s.toks }) :=
  .of_wp fun prog w A R s hyp => by
    obtain ⟨hp, g, d, tk, os⟩ := s
    obtain ⟨hl, hb, fin⟩ := hyp
    have i1 := idx_int
    have i2 := AutoSeq1.sub_tuple_tuple
    have i3 := AutoSeq1.sub_list_list
    have i4 := AutoSeq1.sub_tuple_list
    have i5 := AutoSeq1.sub_list_tuple
    have sz : (xs ++ ys).size ≤ sizeLine + 1 := by
      rw [Array.size_append]
      exact h2
    wp_walk using (wpAny_updateSeq hl rfl (hz := h1) (_hz' := sz)), wpAny_loadPart' hl, wpAny_loadPart' hb
    exact ⟨_, rfl, fin⟩
end
section
variable {X : Cx}
def rExtT (K : PySem.W.Frag) : V → List V → Hp → VK → Prop := fun x vs H Q => ∃ l b xs zs, x = .ref l ∧ vs = [.ref b] ∧ H l = some (.lst xs) ∧ SqT K H b zs ∧ xs.length + zs.length ≤ sizeLine ∧ Q .non (upd H l (.lst (xs ++ zs)))
theorem mt_extendT : MtM X "list.extend" (rExtT X.K) := by
  intro pins s σ H x vs v us Q I rx rv h
  obtain ⟨l, b, xs, zs, rfl, rfl, hH, hB, hz, q⟩ := h
  cases rx
  obtain ⟨u, rfl, ru⟩ := rv.one
  cases ru
  obtain ⟨z, its, n, r, hl, e⟩ := I.lstM hH
  obtain ⟨its2, r2, tp, z2⟩ := I.tuple hB
  obtain ⟨⟨cls2, d2, data2, u2⟩, ho2, hc2, m2, hd2⟩ := id tp
  simp only at hc2 hd2
  subst hc2 hd2
  have hl1 : its.length = xs.length := r.length.symm
  have hl2 : its2.length = zs.length := r2.length.symm
  have sz : its.toArray.size + its2.toArray.size ≤ sizeLine := by
    rw [List.size_toArray, List.size_toArray]
    omega
  have long : ¬ (!its.toArray.isEmpty && Builtin.List.listTooLong (its.toArray.size + its2.toArray.size)) = true := by
    rw [notLongL sz, Bool.and_false]
    exact Bool.false_ne_true
  refine call_meets F.slot_list_extend ⟨_, e, rfl⟩ F.entry_list_extend (F.args_list_extend_2 _ _)
    (list_extend_tupF l b its.toArray its2.toArray n m2 d2 u2 long (by rw [List.size_toArray]; omega) (by omega)) ⟨e, ho2, ?_⟩
  refine ⟨.non, _, I.lset (its' := its ++ its2) hH e (by simp) (r.append r2) ?_, rfl, q⟩
  rw [List.length_append]
  omega
end
section
variable {T S : Type} {g : G} {ζ : Ret T} {Γ : List Sl} {γ : S → List Sl} {e a b c : Expr} {pos p1 p2 p3 : Pos} {sts : List Stmt}
theorem cb_extT (i : Nat) {n : Str} {xs : List D} {r : R D} {k : List D → R (Fl T S)} (h : CE g e Γ r) (h2 : ∀ ys, CB g ζ γ sts (Γ.set i (.l ys)) (k ys)) (hi : Γ[i]? = some (.l xs) := by rfl) (hN : g.X.N[i]? = some n := by rfl)
    (hv : Vis g.X.env.scope n := by first | exact Or.inl rfl | exact Or.inr (Or.inl rfl) | exact Or.inr (Or.inr rfl)) (hd : (n == ("__debug__" : Str)) = false := by decide) (hcd : (n == ("__classdict__" : Str)) = false := by decide)
    (hs : swapsWith (.Call (.Attribute (.Name n p1) "extend" p2) [e] [] p3) none pos.line g.X.env = pure false := by rfl)
    (hbase : attributeBase (.Name n p1) "extend" g.X.env (eval (.Name n p1) g.X.env) = eval (.Name n p1) g.X.env := by rfl)
    (hfew : ((backTo p3 (starEach [e] g.X.env)).all (fun x => !x.1) && (backToKw p3 (keywordEach [] g.X.env)).all (fun x => x.1.isSome) && decide (([e] : List Expr).length + ([] : List Keyword).length + (if ([] : List Keyword).isEmpty then 0 else 1) < 30)) = true := by rfl)
    (hline : (p2.endLine == p3.line) = true := by rfl) (hst : starEach [e] g.X.env = [(false, eval e g.X.env)] := by rfl) :
    CB g ζ γ (.Expr (.Call (.Attribute (.Name n p1) "extend" p2) [e] [] p3) pos :: sts) Γ (r >>= fun x => R.of x.asT >>= fun l => extD xs l k) := .mk fun F H σ Dn E p => by
  refine wB_of (pss_cons (ps_expr (pe_bm PySem.F.plainAttrs_list PySem.F.slot_list_extend PySem.F.type_list_extend mt_extendT (pe_var hN hv hd hcd) (pa_cons (pe_w _ e) pa_nil hst) hbase hfew hline (by rw [hst]; rfl) (by rfl)) hs) (pss_w _ sts)) ?_
  obtain ⟨o, h1, a, vs, rfl, hb, hf, hh, ra⟩ := E.sl i _ hi
  refine ⟨_, h1, .inl ⟨rfl, _, SqL.of hh⟩, ?_⟩
  refine h F H σ _ E (p.expr E fun x v F1 H1 g1 r1 E1 p' => ?_)
  cases x <;> try (exact (show False from p').elim)
  rename_i l
  have p2 : PostS g ζ γ Dn F1 (extD xs l k) := p'
  unfold extD at p2
  split at p2
  · rename_i hl
    have hh1 := g1.h.at hh
    have ra1 := ra.mono g1.f
    cases r1 with
    | tup ht rt =>
      refine ⟨a, _, vs, _, rfl, rfl, hh1, ex_t g1.fh ht, by rw [ra.length, rt.length]; exact lim_line hl, ?_⟩
      exact h2 _ F1 _ σ Dn (EnvOk.write E1 hi rfl h1 ⟨a, _, rfl, hb, g1.n _ _ hh hf, upd_same, ra1.append rt⟩) p2
  · exact (show False from p2).elim
/-! ## t.index(x), xs.index(x), texts -/
def findS (l : List D) : D → Option D
  | .str z => strsD l >>= fun ys => (ys.findIdx? fun y => decide (y = z)).map fun (j : Nat) => D.int j
  | _ => none
theorem findS_of {l : List D} {y r : D} (h : findS l y = some r) : ∃ (ys : List Str) (z : Str) (j : Nat), y = .str z ∧ l = ys.map D.str ∧ ys[j]? = some z ∧ (∀ m, m < j → ys[m]? ≠ some z) ∧ r = .int (j : Nat) := by
  cases y <;> try (cases h; done)
  rename_i z
  have h' : (strsD l >>= fun ys => (ys.findIdx? fun y => decide (y = z)).map fun (j : Nat) => D.int j) = some r := h
  cases e1 : strsD l with
  | none =>
    rw [e1] at h'
    cases h'
  | some ys =>
    rw [e1] at h'
    have h2 : ((ys.findIdx? fun y => decide (y = z)).map fun (j : Nat) => D.int j) = some r := h'
    cases e4 : ys.findIdx? fun y => decide (y = z) with
    | none =>
      rw [e4] at h2
      cases h2
    | some j =>
      rw [e4] at h2
      cases h2
      obtain ⟨hj, hk, hlt⟩ := List.findIdx?_eq_some_iff_getElem.mp e4
      refine ⟨ys, z, j, rfl, strs_of e1, ?_, fun m hm hz => ?_, rfl⟩
      · rw [List.getElem?_eq_getElem hj, of_decide_eq_true hk]
      · rw [List.getElem?_eq_getElem (Nat.lt_trans hm hj)] at hz
        have := hlt m hm
        simp only [Bool.not_eq_true, decide_eq_false_iff_not] at this
        exact this (Option.some.inj hz)
/-- a tuple of the module that has no dict of its own -/
def ndB (K : PySem.W.Frag) : Value → Bool
  | .ref a => (match K.lookup a with
    | some ⟨.type c, none, _, _⟩ => decide (c = "tuple")
    | _ => false)
  | _ => false
theorem ndB_ok {K : PySem.W.Frag} {u : Value} (h : ndB K u = true) : ∃ a o, u = .ref a ∧ K.lookup a = some o ∧ o.cls = .type "tuple" ∧ o.dict = none := by
  cases u <;> try (cases h; done)
  rename_i a
  unfold ndB at h
  dsimp only at h
  split at h
  · rename_i c d sl q
    exact ⟨a, _, rfl, q, by rw [of_decide_eq_true h], rfl⟩
  · cases h
theorem ce_gindex {x : Str} {u : Value} {l : List D} {r2 : R D} (hm : g.X.mg x = some u) (hk : ktB g.X.K u (.tup l) = true) (hn : ndB g.X.K u = true) (h2 : CE g b Γ r2) (hg : Gl g.X x := by rfl) (hd : (x == ("__debug__" : Str)) = false := by decide)
    (hbase : attributeBase (.Name x p1) "index" g.X.env (eval (.Name x p1) g.X.env) = eval (.Name x p1) g.X.env := by rfl)
    (hfew : ((backTo p3 (starEach [b] g.X.env)).all (fun x => !x.1) && (backToKw p3 (keywordEach [] g.X.env)).all (fun x => x.1.isSome) && decide (([b] : List Expr).length + ([] : List Keyword).length + (if ([] : List Keyword).isEmpty then 0 else 1) < 30)) = true := by rfl)
    (hline : (p2.endLine == p3.line) = true := by rfl) (hst : starEach [b] g.X.env = [(false, eval b g.X.env)] := by rfl) :
    CE g (.Call (.Attribute (.Name x p1) "index" p2) [b] [] p3) Γ (r2 >>= fun y => .of (findS l y)) := .mk fun F H σ Q E p => by
  obtain ⟨v, rv, rp⟩ := ktB_ok u (.tup l) hk
  obtain ⟨a0, o0, rfl, lk, hc0, hd0⟩ := ndB_ok hn
  refine wE_of (pe_bm PySem.F.plainAttrs_tuple PySem.F.slot_tuple_index PySem.F.type_tuple_index mt_tup_index (pe_glob hg hm rv hd) (pa_cons (pe_w _ b) pa_nil hst) hbase hfew hline (by rw [hst]; rfl) (by rfl)) ?_
  have r0 := rp F g.C
  cases r0 with
  | @tup q vs _ ht ra =>
    have eq : q = a0 := by
      have z : Value.ref a0 = .ref q := rv
      cases z
      rfl
    subst eq
    refine ⟨.inr (.inl ⟨rfl, o0, lk, hc0, hd0⟩), ?_⟩
    refine h2 F H σ _ E (p.seq fun y w F1 H1 g1 r1 p1 => ?_)
    cases q3 : findS l y with
    | none =>
      rw [q3] at p1
      exact (show False from p1).elim
    | some r =>
      rw [q3] at p1
      obtain ⟨ys, z, j, rfl, rfl, hj, hno, rfl⟩ := findS_of q3
      have e3 := ra.strs
      subst e3
      exact ⟨q, ys, z, j, rfl, by rw [str_of r1], ex_t (E.ef.trans g1.h) ht, hj, hno, p1.here g1.fh (.int _)⟩
theorem ce_lindex {r1 : R (List D)} {r2 : R D} (h : CL g a Γ r1) (h2 : CE g b Γ r2)
    (hbase : attributeBase a "index" g.X.env (eval a g.X.env) = eval a g.X.env := by rfl)
    (hfew : ((backTo p3 (starEach [b] g.X.env)).all (fun x => !x.1) && (backToKw p3 (keywordEach [] g.X.env)).all (fun x => x.1.isSome) && decide (([b] : List Expr).length + ([] : List Keyword).length + (if ([] : List Keyword).isEmpty then 0 else 1) < 30)) = true := by rfl)
    (hline : (p2.endLine == p3.line) = true := by rfl) (hst : starEach [b] g.X.env = [(false, eval b g.X.env)] := by rfl) :
    CE g (.Call (.Attribute a "index" p2) [b] [] p3) Γ (r1 >>= fun xs => r2 >>= fun y => .of (findS xs y)) := .mk fun F H σ Q E p => by
  refine wE_of (pe_bm PySem.F.plainAttrs_list PySem.F.slot_list_index PySem.F.type_list_index mt_index (pe_w _ a) (pa_cons (pe_w _ b) pa_nil hst) hbase hfew hline (by rw [hst]; rfl) (by rfl)) ?_
  refine h F H σ _ E (p.seq fun xs v F1 H1 g1 r1 p1 => ?_)
  obtain ⟨q, vs, rfl, hs, ra⟩ := r1
  refine ⟨.inl ⟨rfl, _, hs⟩, ?_⟩
  refine h2 F1 H1 σ _ (E.grow g1) (p1.seq fun y w F2 H2 g2 r2 p2 => ?_)
  cases q3 : findS xs y with
  | none =>
    rw [q3] at p2
    exact (show False from p2).elim
  | some r =>
    rw [q3] at p2
    obtain ⟨ys, z, j, rfl, rfl, hj, hno, rfl⟩ := findS_of q3
    have e3 := ra.strs
    subst e3
    refine ⟨q, _, .str z, j, .str z, rfl, by rw [str_of r2], ex_l g2.h hs, rfl, flat_strs ys, by rw [List.getElem?_map, hj]; rfl, ?_, fun m z' hm hz => ?_, p2.here g2.fh (.int _)⟩
    · show (z == z) = true
      exact beq_self_eq_true z
    · rw [List.getElem?_map] at hz
      cases q4 : ys[m]? with
      | none =>
        rw [q4] at hz
        cases hz
      | some z2 =>
        rw [q4] at hz
        cases hz
        show (z2 == z) = false
        exact beq_eq_false_iff_ne.mpr fun e => hno m hm (by rw [q4, e])
end
/-! ## a text within a text -/
section
variable {X : Cx} {C : Ctab}
def D.inS : D → D → Option D
  | .str i, .str j => some (.bl (!(Builtin.Str.occurrences j i 0 j.length 1).isEmpty))
  | _, _ => none
theorem od_inS : OpD X (compareOp .In) (rD X.K C) (rR X.K C) (rD X.K C) D.inS := by
  refine ⟨_, op_in_str, fun F H H0 H1 x y dx dy Q e r1 r2 p => ?_⟩
  cases dx <;> cases dy <;> try (exact (show False from p).elim)
  exact ⟨_, _, str_of r1, str_of r2, fin_here p e (.bl _)⟩
end
/-! ## len of a set of texts -/
def nubS : List Str → List Str → List Str
  | acc, [] => acc
  | acc, x :: l => nubS (if x ∈ acc then acc else acc ++ [x]) l
theorem nubS_nodup : ∀ (l acc : List Str), acc.Nodup → (nubS acc l).Nodup
  | [], acc, h => h
  | x :: l, acc, h => by
    unfold nubS
    refine nubS_nodup l _ ?_
    split
    · exact h
    · rename_i hx
      rw [List.nodup_append]
      refine ⟨h, by simp, fun a ha b hb => ?_⟩
      rw [List.mem_singleton] at hb
      rw [hb]
      intro z
      rw [z] at ha
      exact hx ha
theorem nubS_mem : ∀ (l acc : List Str) (k : Str), k ∈ nubS acc l ↔ k ∈ acc ∨ k ∈ l
  | [], acc, k => by simp [nubS]
  | x :: l, acc, k => by
    unfold nubS
    rw [nubS_mem l]
    split
    · rename_i hx
      constructor
      · rintro (h | h)
        · exact .inl h
        · exact .inr (List.mem_cons_of_mem _ h)
      · rintro (h | h)
        · exact .inl h
        · rcases List.mem_cons.mp h with rfl | h
          · exact .inl hx
          · exact .inr h
    · constructor
      · rintro (h | h)
        · rcases List.mem_append.mp h with h | h
          · exact .inl h
          · rw [List.mem_singleton] at h
            rw [h]
            exact .inr (List.mem_cons_self ..)
        · exact .inr (List.mem_cons_of_mem _ h)
      · rintro (h | h)
        · exact .inl (List.mem_append.mpr (.inl h))
        · rcases List.mem_cons.mp h with rfl | h
          · exact .inl (List.mem_append.mpr (.inr (List.mem_singleton_self _)))
          · exact .inr h
def lenU : DU → Option D
  | .s ks => some (.int ((nubS [] ks).length : Nat))
  | _ => none
end DL
end
section
set_option Elab.async false
set_option linter.all false
set_option maxRecDepth 100000
set_option maxHeartbeats 2000000
set_option autoImplicit false
namespace DL
open PySem PySem.Spec PyProof.Rows L2
variable [TN]
section
variable {X : Cx} {C : Ctab}
theorem cr_lenX : CallR X (.builtin "len") (fun vs H Q => ∃ (a : Addr) (ks : List Str) (n : Nat), vs = [V.ref a] ∧ H a = some (SetXO X.w a (fun j => decide (j ∈ ks)) n) ∧ Q (.int ((nubS [] ks).length : Nat)) H) := by
  intro pins s σ H vs us Q I r h
  obtain ⟨a, ks, n, rfl, ha, q⟩ := h
  have R : SetX X.w s.heap a (fun j => decide (j ∈ ks)) n := (I.hok a _ ha).1
  rw [Vals.ref1 r]
  obtain ⟨o, es, ep, t, ho, hex, hd, g, nd, hm, hb, hf, hn, hr, hl⟩ := R
  have pm : (nubS [] ks).Perm (es.toList.map txOf) := (List.perm_ext_iff_of_nodup (nubS_nodup ks [] List.nodup_nil) nd).mpr fun k => by
    rw [nubS_mem, ← hm k]
    simp
  have len : (nubS [] ks).length = es.size := by
    rw [pm.length_eq, List.length_map, Array.length_toList]
  have sb : (es.size : Int) < 2 ^ 63 := by
    have h2 : es.size < scanBound := hb
    have h3 : (scanBound : Nat) ≤ 2 ^ 62 := by decide +kernel
    omega
  exact call_len_set ho hex hd hf sb ⟨.int ((nubS [] ks).length : Nat), H, I.tok _, ⟨_, by rw [len]⟩, q⟩
theorem cd_lenU : CallD X (.builtin "len") (rSetU X.w) (rD X.K C) lenU := by
  refine ⟨_, cr_lenX, fun F H H0 x dx Q e r1 p => ?_⟩
  cases dx with
  | i ns => exact (show False from p).elim
  | s ks =>
    obtain ⟨a, c, rfl, h0, hf, hc, hh⟩ := r1
    exact ⟨a, ks, c, rfl, hh, fin_here p e (.int _)⟩
end
/-! ## x[:e], e with the state -/
section
variable {α : Type} {g : G} {Γ : List Sl} {b c : Expr} {a : Addr} {s : DK} {pos p2 : Pos}
theorem cgs_slHi {γ : Type} (i : Nat) {ρ1 : Rep V α} {ρ : Rep V γ} {h : α → Option Int → Option Int → Option γ} {ra : R α} {rc : R (D × DK)} (ho : SlD g.X ρ1 ρ h) (ha : CG g ρ1 b Γ ra) (hc : CES g a c Γ rc)
    (hk : ∀ {H0 F H F' H' : Hp} {v : V} {x : α}, GrS a F H F' H' → StA g.X.K g.C F H a s → ρ1.r H0 F H v x → ρ1.r H0 F' H' v x) (hi : Γ[i]? = some (.k a s) := by rfl) :
    CGS g ρ a (.Subscript b (.Slice none (some c) none p2) pos) Γ (ra >>= fun x => bnd rc fun u t => .of (u.asI) >>= fun k => .of (h x none (some k)) >>= fun y => .ok (y, t)) := .mk fun F H σ Q E p => by
  obtain ⟨r, h1, h2⟩ := ho
  refine wE_of (pe_slice h1 (pe_w _ b) (po_w _ none) (po_w _ (some c))) ?_
  refine ha F H σ _ E (p.pure (E.stA hi) fun x v F1 H1 g1 r1 st1 p1 => ?_)
  refine wO_of po_none ?_
  refine wO_of (po_some (pe_w _ c)) ?_
  refine hc F1 H1 σ _ (E.grow g1) (p1.seq (k := fun u t => .of (u.asI) >>= fun k => .of (h x none (some k)) >>= fun y => .ok (y, t)) fun u s2 w F2 H2 g2 st2 r2 p2 => ?_)
  cases u <;> try (exact (show False from p2).elim)
  rename_i k
  refine ⟨k, int_of r2, ?_⟩
  have p3 : PostT g ρ a F2 H2 σ Q (.of (h x none (some k)) >>= fun y => .ok (y, s2)) := p2
  exact h2 F2 H2 H v x none (some k) Q g2.fh (hk g2 st1 r1) (p3.ofV st2)
end
/-! ## range(i, j, 2) -/
section
variable {K : PySem.W.Frag} {C : Ctab} {F H : Hp}
theorem wlk_step (lo c : Int) (n : Nat) : Wlk K C F (Itc lo c n) ((List.range n).map fun (k : Nat) => D.int (lo + k * c)) := fun i F2 H2 e1 e2 => by
  refine ⟨fun hl => ?_, fun y hy => ?_⟩
  · show n ≤ i
    simpa using hl
  · rw [List.getElem?_map] at hy
    by_cases hi : i < n
    · rw [List.getElem?_range hi] at hy
      cases hy
      exact ⟨hi, fun w H3 ⟨z, z2⟩ => by
        subst z z2
        exact ⟨F2, Gr.refl e2, .int _⟩⟩
    · rw [List.getElem?_eq_none (by simpa using hi)] at hy
      cases hy
end
theorem rgc_two {i j : Int} (h1 : i.natAbs ≤ 1000000000) (h2 : j.natAbs ≤ 1000000000) : RgC i j 2 ((j - i + 1) / 2).toNat := by
  have sz : Builtin.Range.rangeSize i j 2 = (((j - i + 1) / 2).toNat : Int) := by
    unfold Builtin.Range.rangeSize
    rw [if_pos (by decide)]
    split <;> omega
  refine ⟨by decide, by decide, ?_, sz⟩
  unfold Builtin.Range.small
  rw [sz]
  simp only [Builtin.Range.rangeFitsLong, Bool.and_eq_true, Bool.or_eq_true, decide_eq_true_eq, beq_iff_eq, show (2 : Int) > 0 by decide, if_true]
  omega
section
variable {T S : Type} {g : G} {Γ : List Sl} {a b c tg : Expr} {pos p1 : Pos}
def rangeT : D → D → D → Option (List D)
  | .int i, .int j, .int k => if (k = 2 ∧ rngOk i = true) ∧ rngOk j = true then some ((List.range ((j - i + 1) / 2).toNat).map fun (k : Nat) => D.int (i + k * 2)) else none
  | _, _, _ => none
theorem ci_rangeT {r r2 r3 : R D} (h : CE g a Γ r) (h2 : CE g b Γ r2) (h3 : CE g c Γ r3) (hm : g.X.mg "range" = none) (hg : Gl g.X "range" := by rfl)
    (s1 : starEach [a, b, c] g.X.env = [(false, eval a g.X.env), (false, eval b g.X.env), (false, eval c g.X.env)] := by rfl) (s2 : starEach [b, c] g.X.env = [(false, eval b g.X.env), (false, eval c g.X.env)] := by rfl)
    (s3 : starEach [c] g.X.env = [(false, eval c g.X.env)] := by rfl) :
    CI g tg (.Call (.Name "range" p1) [a, b, c] [] pos) Γ (r >>= fun x => r2 >>= fun y => r3 >>= fun z => .of (rangeT x y z)) := .mk fun F H σ Rr E p => by
  refine wI_of (pi_range3 hg hm (pa_cons (pe_w _ a) (pa_cons (pe_w _ b) (pa_cons (pe_w _ c) pa_nil s3) (by rw [s2, s3])) (by rw [s1, s2])) (by rw [s1, s2]) (by rw [s2]; rfl)) ?_
  refine h F H σ _ E (p.seq fun x v F1 H1 g1 r1 p1 => h2 F1 H1 σ _ (E.grow g1) (p1.seq fun y w F2 H2 g2 r2' p2 => h3 F2 H2 σ _ ((E.grow g1).grow g2) (p2.seq fun z u F3 H3 g3 r3' q => ?_)))
  cases x <;> cases y <;> cases z <;> try (exact (show False from q).elim)
  rename_i i j k
  unfold rangeT at q
  dsimp only at q
  split at q
  · rename_i ok
    have ok1 := of_decide_eq_true ok.1.2
    have ok2 := of_decide_eq_true ok.2
    obtain rfl := ok.1.1
    refine ⟨i, j, 2, ((j - i + 1) / 2).toNat, by rw [int_of r1, int_of r2', int_of r3'], rgc_two ok1 ok2, ?_⟩
    exact q _ F3 H3 (Gr.refl g3.fh) (wlk_step i 2 ((j - i + 1) / 2).toNat)
  · exact (show False from q).elim
end
end DL
end
section
set_option Elab.async false
set_option linter.all false
set_option maxRecDepth 100000
set_option maxHeartbeats 2000000
set_option autoImplicit false
namespace DL
open PySem PySem.Spec PyProof.Rows L2
variable [TN]
section
variable {g : G} {Γ : List Sl} {b c : Expr} {pos : Pos} {a : Addr} {s : DK}
/-- b op c, both with the state, of other kinds than data -/
theorem cgs_bin3 {α β γ : Type} {op : Operator} {ρ1 : Rep V α} {ρ2 : Rep V β} {ρ : Rep V γ} (i : Nat) {h : α → β → Option γ} {ra : R (α × DK)} {rb : DK → R (β × DK)} (ho : OpD g.X (binaryOp op) ρ1 ρ2 ρ h) (ha : CGS g ρ1 a b Γ ra) (hb : ∀ s', CGS g ρ2 a c (Γ.set i (.k a s')) (rb s'))
    (hk : ∀ {s1 : DK} {H0 F H F' H' : Hp} {v : V} {x : α}, GrS a F H F' H' → StA g.X.K g.C F H a s1 → ρ1.r H0 F H v x → ρ1.r H0 F' H' v x) (hi : Γ[i]? = some (.k a s) := by rfl) :
    CGS g ρ a (.BinOp b op c pos) Γ (bnd ra fun x t => bnd (rb t) fun u t => R.of (h x u) >>= fun y => R.ok (y, t)) := .mk fun F H σ Q E p => by
  obtain ⟨r, h1, h2⟩ := ho
  refine wE_of (pe_op h1 (pe_w _ b) (pe_w _ c)) ?_
  refine ha F H σ _ E (p.seq (k := fun x t => bnd (rb t) fun u t => R.of (h x u) >>= fun y => R.ok (y, t)) fun x s1 v F1 H1 g1 st1 r1 p1 => ?_)
  refine hb s1 F1 H1 σ _ (E.grS hi g1 st1) (p1.seq (k := fun u t => R.of (h x u) >>= fun y => R.ok (y, t)) fun u s2 w F2 H2 g2 st2 r2 p2 => ?_)
  exact h2 F2 H2 H H1 v w x u Q g2.fh (hk g2 st1 r1) r2 (p2.ofV st2)
end
end DL
end
section
set_option Elab.async false
set_option linter.all false
set_option maxRecDepth 100000
set_option maxHeartbeats 2000000
set_option autoImplicit false
namespace DL
open PySem PySem.Spec PyProof.Rows L2
variable [TN]
/-! ## str(x), int(x) -/
section
variable {X : Cx} {C : Ctab}
def strI : D → Option D
  | .int i => if i.natAbs.log2 < 1920 then some (.str (toString i : String)) else none
  | _ => none
theorem cd_strI : CallD X (.type "str") (rD X.K C) (rD X.K C) strI := by
  refine ⟨_, call_str_int, fun F H H0 x dx Q e r1 p => ?_⟩
  cases dx <;> try (exact (show False from p).elim)
  rename_i i
  unfold strI at p
  dsimp only at p
  split at p
  · rename_i hl
    exact ⟨i, by rw [int_of r1], hl, fin_here p e (.str _)⟩
  · exact p.elim
def intX : D → Option D
  | .str x => if x.length ≤ 640 then (intText? x).map D.int else none
  | .int i => some (.int i)
  | .bl b => some (.int (if b then 1 else 0))
  | _ => none
theorem cd_intX : CallD X (.type "int") (rD X.K C) (rD X.K C) intX := by
  refine ⟨_, call_int1.or call_int_str, fun F H H0 x dx Q e r1 p => ?_⟩
  cases dx <;> try (exact (show False from p).elim)
  · cases r1
    exact .inl (.inr ⟨_, rfl, fin_here p e (.int _)⟩)
  · cases r1
    exact .inl (.inl ⟨_, rfl, fin_here p e (.int _)⟩)
  · rename_i a
    unfold intX at p
    dsimp only at p
    split at p
    · rename_i hl
      cases q : intText? a with
      | none =>
        rw [q] at p
        exact p.elim
      | some n =>
        rw [q] at p
        exact .inr ⟨a, n, by rw [str_of r1], q, hl, fin_here p e (.int _)⟩
    · exact p.elim
end
/-! ## x.split(y), x.rstrip(y) -/
section
variable {g : G} {Γ : List Sl} {a b : Expr} {pos apos : Pos}
def splitD : D → D → Option (List D)
  | .str x, .str y => if (y.length == 0) = false ∧ x.length ≤ lim then some ((Txt.split x y).map D.str) else none
  | _, _ => none
theorem RpA_strs {K : PySem.W.Frag} {C : Ctab} {F : Hp} : ∀ l : List Str, RpA K C F (l.map V.str) (l.map D.str)
  | [] => .nil
  | x :: l => .cons (.str x) (RpA_strs l)
theorem cn_split {y : Str} {j : Nat} {p0 : Pos} {r : R D} (h : CE g a Γ r) (hs : starEach [.Constant (.str y) j p0] g.X.env = [(false, eval (.Constant (.str y) j p0) g.X.env)] := by rfl) (hbase : attributeBase a "split" g.X.env (eval a g.X.env) = eval a g.X.env := by rfl) (hline : (apos.endLine == pos.line) = true := by rfl) :
    CN g (.Call (.Attribute a "split" apos) [.Constant (.str y) j p0] [] pos) Γ (r >>= fun x => .of (splitD x (.str y))) := .mk fun F H σ Q E p => by
  refine wE_of (pe_split (pe_w _ a) pe_str hs hbase hline) ?_
  refine h F H σ _ E (p.seq fun x v F1 H1 g1 r1 p1 => ?_)
  cases x <;> try (exact (show False from p1).elim)
  rename_i x
  obtain rfl := str_of r1
  have p3 : Post g (rN g.X.K g.C) F1 H1 σ Q (.of (if (y.length == 0) = false ∧ x.length ≤ lim then some ((Txt.split x y).map D.str) else none)) := p1
  split at p3
  case isFalse => exact (show False from p3).elim
  rename_i hz
  refine ⟨⟨x, rfl⟩, x, y, rfl, rfl, hz.1, ?_, fun q hq => ?_⟩
  · have := hz.2
    have e : lim = 10000000 := rfl
    rw [sizeLine_eq]
    omega
  · exact p3 _ _ _ (Gr.own g1.fh hq) ⟨q, _, rfl, hq, g1.fh.back hq, upd_same, RpA_strs _⟩
def rstripD : D → D → Option D
  | .str x, .str y => if x.length ≤ lim then some (.str (Txt.rstripChars x y)) else none
  | _, _ => none
theorem ce_rstrip {y : Str} {j : Nat} {p0 : Pos} {r : R D} (h : CE g a Γ r) (hs : starEach [.Constant (.str y) j p0] g.X.env = [(false, eval (.Constant (.str y) j p0) g.X.env)] := by rfl) (hbase : attributeBase a "rstrip" g.X.env (eval a g.X.env) = eval a g.X.env := by rfl) (hline : (apos.endLine == pos.line) = true := by rfl) :
    CE g (.Call (.Attribute a "rstrip" apos) [.Constant (.str y) j p0] [] pos) Γ (r >>= fun x => .of (rstripD x (.str y))) := .mk fun F H σ Q E p => by
  refine wE_of (pe_m1 PySem.F.slot_str_rstrip PySem.F.type_str_rstrip mt_rstripChars (pe_w _ a) pe_str hs hbase hline) ?_
  refine h F H σ _ E (p.seq fun x v F1 H1 g1 r1 p1 => ?_)
  cases x <;> try (exact (show False from p1).elim)
  rename_i x
  obtain rfl := str_of r1
  have p3 : Post g (rD g.X.K g.C) F1 H1 σ Q (.of (if x.length ≤ lim then some (.str (Txt.rstripChars x y)) else none)) := p1
  split at p3
  case isFalse => exact (show False from p3).elim
  rename_i hz
  exact ⟨⟨x, rfl⟩, x, y, rfl, rfl, lim_line hz, p3.here g1.fh (.str _)⟩
/-! ## f-strings -/
/-- one part more -/
def fmtA (acc : Str) : D → Option Str
  | .str y => if y.length ≤ lim ∧ (acc ++ y).length ≤ lim then some (acc ++ y) else none
  | .int i => if i.natAbs.log2 < 1920 ∧ (acc ++ (toString i : String)).length ≤ lim then some (acc ++ (toString i : String)) else none
  | _ => none
structure CFs (g : G) (es : List Expr) (Γ : List Sl) (r : Str → R D) : Prop where
  h : ∃ ts, PJ g.X es ts ∧ ∀ F H σ Q acc, g.Env F H σ Γ → Post g (rD g.X.K g.C) F H σ Q (r acc) → tJs ts acc σ H fun out H1 => Q (.str out) H1
theorem cfs_nil : CFs g [] Γ (fun acc => .ok (.str acc)) := ⟨[], .nil, fun F H σ Q acc E p => p.here E.ef (.str _)⟩
theorem cfs_str {y : Str} {j : Nat} {p0 : Pos} {es : List Expr} {r : Str → R D} (h : CFs g es Γ r) : CFs g (.Constant (.str y) j p0 :: es) Γ (fun acc => .of (fmtA acc (.str y)) >>= fun z => r z) := by
  obtain ⟨ts, h1, h2⟩ := h
  refine ⟨_, .cons pe_str h1, fun F H σ Q acc E p => ?_⟩
  have p3 : Post g (rD g.X.K g.C) F H σ Q (R.of (if y.length ≤ lim ∧ (acc ++ y).length ≤ lim then some (acc ++ y) else none) >>= fun z => r z) := p
  split at p3
  case isFalse => exact (show False from p3).elim
  rename_i hz
  exact ⟨y, rfl, lim_line hz.2, h2 F H σ Q _ E p3⟩
theorem cfs_val {p0 : Pos} {es : List Expr} {re : R D} {r : Str → R D} (he : CE g a Γ re) (h : CFs g es Γ r) : CFs g (.FormattedValue a (-1) none p0 :: es) Γ (fun acc => re >>= fun x => .of (fmtA acc x) >>= fun z => r z) := by
  obtain ⟨ts, h1, h2⟩ := h
  refine ⟨_, .cons (pe_fmt (pe_w _ a)) h1, fun F H σ Q acc E p => ?_⟩
  refine he F H σ _ E (p.seq fun x v F1 H1 g1 r1 p1 => ?_)
  cases x <;> try (exact (show False from p1).elim)
  · rename_i i
    obtain rfl := int_of r1
    have p3 : Post g (rD g.X.K g.C) F1 H1 σ Q (R.of (if i.natAbs.log2 < 1920 ∧ (acc ++ (toString i : String)).length ≤ lim then some (acc ++ (toString i : String)) else none) >>= fun z => r z) := p1
    split at p3
    case isFalse => exact (show False from p3).elim
    rename_i hz
    exact .inr ⟨i, rfl, hz.1, _, rfl, lim_line hz.2, h2 F1 H1 σ Q _ (E.grow g1) p3⟩
  · rename_i y
    obtain rfl := str_of r1
    have p3 : Post g (rD g.X.K g.C) F1 H1 σ Q (R.of (if y.length ≤ lim ∧ (acc ++ y).length ≤ lim then some (acc ++ y) else none) >>= fun z => r z) := p1
    split at p3
    case isFalse => exact (show False from p3).elim
    rename_i hz
    exact .inl ⟨y, rfl, lim_line hz.1, _, rfl, lim_line hz.2, h2 F1 H1 σ Q _ (E.grow g1) p3⟩
def fstr (r : Str → R D) : R D := r Str.empty
theorem ce_fstr {v1 v2 : Expr} {es : List Expr} {p0 : Pos} {r : Str → R D} (h : CFs g (v1 :: v2 :: es) Γ r) : CE g (.JoinedStr (v1 :: v2 :: es) p0) Γ (fstr r) := .mk fun F H σ Q E p => by
  obtain ⟨ts, h1, h2⟩ := h
  exact wE_of (pe_joined h1) (h2 F H σ Q _ E p)
/-- f'..'.replace(y, z) -/
def replD : D → D → D → Option D
  | .str x, .str y, .str z => if x.length + (x.length + 1) * z.length ≤ 16777216 then some (.str (Txt.replace x y z)) else none
  | _, _, _ => none
theorem pe_jrep {X : Cx} {v1 v2 : Expr} {rest : List Expr} {ts : List TE} {y z : Str} {j k : Nat} {p0 c0 c1 apos pos : Pos} (h : PJ X (v1 :: v2 :: rest) ts) (hyz : (y == z) = false)
    (hst : starEach [.Constant (.str y) j c0, .Constant (.str z) k c1] X.env = [(false, eval (.Constant (.str y) j c0) X.env), (false, eval (.Constant (.str z) k c1) X.env)])
    (hbase : attributeBase (.JoinedStr (v1 :: v2 :: rest) p0) "replace" X.env (eval (.JoinedStr (v1 :: v2 :: rest) p0) X.env) = eval (.JoinedStr (v1 :: v2 :: rest) p0) X.env) (hline : (apos.endLine == pos.line) = true) :
    PE X (.Call (.Attribute (.JoinedStr (v1 :: v2 :: rest) p0) "replace" apos) [.Constant (.str y) j c0, .Constant (.str z) k c1] [] pos)
      (fun σ H Q => tJs ts Str.empty σ H fun out H1 => out.length + (out.length + 1) * z.length ≤ 16777216 ∧ Q (.str (Txt.replace out y z)) H1) := by
  refine ⟨fun pins s σ H Q I q => ?_⟩
  refine PySem.Call_method2 hbase hst hline ?_
  refine wpAny_JoinedStr (pj_run h Str.empty s H (fun out H1 => out.length + (out.length + 1) * z.length ≤ 16777216 ∧ Q (.str (Txt.replace out y z)) H1) _ (Nat.zero_le _) I q fun out s1 H1 hz I1 q1 => ⟨hz, ?_⟩)
  refine ⟨"str", _, PySem.F.plainAttrs_str, PySem.F.slot_str_replace, PySem.F.type_str_replace, typeIs_str _ _ _, (fun _ e => nomatch e), Calls.callWith_builtin rfl (Calls.evalArgs_plain (Calls.spliced_cons ?_))⟩
  refine Calls.Constant_str (Calls.spliced_cons (Calls.Constant_str (Calls.spliced_nil ?_)))
  exact PySem.SC.replace (by show s1.toks + 1 ≠ 0; omega) (by show s1.toks + 1 + 1 ≠ 0; omega) (by show s1.toks + 1 ≠ s1.toks + 1 + 1; omega) hyz q1.1 fun t' k => ⟨.str (Txt.replace out y z), H1, I1.tok k, ⟨t', rfl⟩, q1.2⟩
theorem ce_jrep {v1 v2 : Expr} {es : List Expr} {p0 c0 c1 : Pos} {y z : Str} {j k : Nat} {r : Str → R D} (h : CFs g (v1 :: v2 :: es) Γ r) (hyz : (y == z) = false := by decide)
    (hst : starEach [.Constant (.str y) j c0, .Constant (.str z) k c1] g.X.env = [(false, eval (.Constant (.str y) j c0) g.X.env), (false, eval (.Constant (.str z) k c1) g.X.env)] := by rfl)
    (hbase : attributeBase (.JoinedStr (v1 :: v2 :: es) p0) "replace" g.X.env (eval (.JoinedStr (v1 :: v2 :: es) p0) g.X.env) = eval (.JoinedStr (v1 :: v2 :: es) p0) g.X.env := by rfl) (hline : (apos.endLine == pos.line) = true := by rfl) :
    CE g (.Call (.Attribute (.JoinedStr (v1 :: v2 :: es) p0) "replace" apos) [.Constant (.str y) j c0, .Constant (.str z) k c1] [] pos) Γ (fstr r >>= fun x => .of (replD x (.str y) (.str z))) := .mk fun F H σ Q E p => by
  obtain ⟨ts, h1, h2⟩ := h
  refine wE_of (pe_jrep h1 hyz hst hbase hline) ?_
  refine h2 F H σ (fun v H1 => match v with
    | .str out => out.length + (out.length + 1) * z.length ≤ 16777216 ∧ Q (.str (Txt.replace out y z)) H1
    | _ => False) Str.empty E (p.seq fun x v F1 H1 g1 r1 p1 => ?_)
  cases x <;> try (exact (show False from p1).elim)
  rename_i x
  obtain rfl := str_of r1
  have p3 : Post g (rD g.X.K g.C) F1 H1 σ Q (R.of (if x.length + (x.length + 1) * z.length ≤ 16777216 then some (.str (Txt.replace x y z)) else none)) := p1
  split at p3
  case isFalse => exact (show False from p3).elim
  rename_i hz
  exact ⟨hz, p3.here g1.fh (.str _)⟩
end
end DL
end
section
set_option Elab.async false
set_option linter.all false
set_option maxRecDepth 100000
set_option maxHeartbeats 2000000
set_option autoImplicit false
namespace DL
open PySem PySem.Spec PyProof.Rows L2
variable [TN]
/-! ## d.update(a dict), sorted(d) -/
section
variable {X : Cx}
def rUpdK : V → List V → Hp → VK → Prop := fun x xs H Q => ∃ (d o : Addr) (kvs more : List (L2.Key × V)), x = .ref d ∧ xs = [.ref o] ∧ d ≠ o ∧ H d = some (.dK kvs) ∧ H o = some (.dK more) ∧ kvs.length + more.length ≤ 16000000 ∧ Q .non (upd H d (.dK (mergeK kvs more)))
theorem mt_updK : MtR X "dict.update" rUpdK := by
  intro pins s σ H x xs v us Q I rx rxs h
  obtain ⟨d, o, kvs, more, rfl, rfl, hdo, hd, ho, hz, q⟩ := h
  cases rx
  cases rxs with
  | cons r1 rt =>
    cases rt
    cases r1
    obtain ⟨z1, n1, vs, rel1, dd1⟩ := dk_of I.hok hd
    obtain ⟨z2, n2, ws, rel2, dd2⟩ := dk_of I.hok ho
    have hl : vs.length + ws.length ≤ sizeLine := by
      rw [← rel1.length, ← rel2.length, sizeLine_eq]
      omega
    refine call_meetsIn PySem.F.slot_dict_update dd1.typeIs PySem.F.entry_dict_update (PySem.F.args_dict_update_2 _ _) (meets_dict_update (mixKind X.prog X.w) d o hdo n2) ⟨vs, ws, dd1, dd2, hl, fun h' dd' _ hs => ?_⟩
    have he : ∃ q, h'.get? d = some q := let ⟨q, _, _, hq, _⟩ := dd'; ⟨q, hq⟩
    have hlen : (mergeK kvs more).length ≤ sizeLine := by
      refine Nat.le_trans (length_mergeK more kvs) ?_
      rw [rel1.length, rel2.length]
      exact hl
    exact ⟨.non, upd H d (.dK (mergeK kvs more)), d_write (t' := s.toks) I (by rw [hd]; exact True.intro) hs he (dk_new hlen n1 (KV.merge rel2 rel1) dd'), rfl, q⟩
end
section
variable {T S : Type} {g : G} {ζ : Ret T} {Γ : List Sl} {γ : S → List Sl} {e a b c : Expr} {pos p1 p2 p3 : Pos} {st : Stmt} {sts : List Stmt} {Dn : Ends}
def dupd (kvs more : DK) : Option DK := if kvs.length + more.length ≤ lim then some (dmerge kvs more) else none
/-- d.update(e), e a new dict; .. -/
theorem cb_update (i : Nat) {ad : Addr} {kvs : DK} {n : Str} {r : R DK} {k : DK → R (Fl T S)} (h : CG g (rK g.X.K g.C) e Γ r) (h2 : ∀ kvs', CB g ζ γ sts (Γ.set i (.k ad kvs')) (k kvs')) (hi : Γ[i]? = some (.k ad kvs) := by rfl) (hN : g.X.N[i]? = some n := by rfl)
    (hv : Vis g.X.env.scope n := by first | exact Or.inl rfl | exact Or.inr (Or.inl rfl) | exact Or.inr (Or.inr rfl)) (hd : (n == ("__debug__" : Str)) = false := by decide) (hcd : (n == ("__classdict__" : Str)) = false := by decide)
    (hs : swapsWith (.Call (.Attribute (.Name n p1) "update" p2) [e] [] p3) none pos.line g.X.env = pure false := by rfl)
    (hbase : attributeBase (.Name n p1) "update" g.X.env (eval (.Name n p1) g.X.env) = eval (.Name n p1) g.X.env := by rfl)
    (hfew : ((backTo p3 (starEach [e] g.X.env)).all (fun x => !x.1) && (backToKw p3 (keywordEach [] g.X.env)).all (fun x => x.1.isSome) && decide (([e] : List Expr).length + ([] : List Keyword).length + (if ([] : List Keyword).isEmpty then 0 else 1) < 30)) = true := by rfl)
    (hline : (p2.endLine == p3.line) = true := by rfl) (hst : starEach [e] g.X.env = [(false, eval e g.X.env)] := by rfl) :
    CB g ζ γ (.Expr (.Call (.Attribute (.Name n p1) "update" p2) [e] [] p3) pos :: sts) Γ (r >>= fun x => R.of (dupd kvs x) >>= k) := .mk fun F H σ Dn E p => by
  refine wB_of (pss_cons (ps_expr (pe_bm PySem.F.plainAttrs_dict PySem.F.slot_dict_update PySem.F.type_dict_update mt_updK (pe_var hN hv hd hcd) (pa_cons (pe_w _ e) pa_nil hst) hbase hfew hline (by rw [hst]; rfl) (by rfl)) hs) (pss_w _ sts)) ?_
  obtain ⟨o, h1, ws, rfl, hb, hf, hh, ra⟩ := E.sl i _ hi
  refine ⟨_, h1, .inr (.inr (.inl ⟨rfl, .inl ⟨_, hh⟩⟩)), ?_⟩
  refine h F H σ _ E (p.expr E fun x v F1 H1 g1 r1 E1 p' => ?_)
  obtain ⟨q, ms, rfl, h0, hf1, hq, rm⟩ := r1
  unfold dupd at p'
  split at p'
  case isFalse => exact (show False from p').elim
  rename_i hl
  have hh1 := g1.h.at hh
  have ra1 := ra.mono g1.f
  have hne : ad ≠ q := fun z => by
    rw [z, h0] at hh
    cases hh
  refine ⟨ad, q, ws, ms, rfl, rfl, hne, hh1, hq, ?_, ?_⟩
  · have : lim = 10000000 := rfl
    rw [ra.length, rm.length]
    omega
  · exact h2 _ F1 _ σ Dn (EnvOk.write E1 hi rfl h1 ⟨_, rfl, hb, g1.n _ _ hh hf, upd_same, RpK.merge rm ra1⟩) p'
def keysI : DK → Option (List Int)
  | [] => some []
  | (.inl i, _) :: l => (keysI l).map (i :: ·)
  | _ => none
theorem keysI_of {K : PySem.W.Frag} {C : Ctab} {F : Hp} : ∀ {kvs : DK} {ws : List (L2.Key × V)} {ns : List Int}, RpK K C F ws kvs → keysI kvs = some ns → ws.map (·.1) = ns.map Sum.inl
  | [], _, ns, r, h => by
    cases r
    cases h
    rfl
  | (k, d) :: l, _, ns, r, h => by
    cases r with
    | @cons w _ ws _ hr t =>
      cases k with
      | inr _ => cases h
      | inl i =>
        have h' : (keysI l).map (i :: ·) = some ns := h
        cases q : keysI l with
        | none =>
          rw [q] at h'
          cases h'
        | some ms =>
          rw [q] at h'
          cases h'
          rw [List.map_cons, List.map_cons, keysI_of t q]
          have e : w.1 = Sum.inl i := hr.1
          rw [e]
def sortK (kvs : DK) : Option (List D) := (keysI kvs) >>= fun ns => if ns.length < 64 then some (ns.mergeSort.map D.int) else none
/-- sorted(d), the keys whole numbers -/
theorem cn_sortK (i : Nat) {ad : Addr} {kvs : DK} {n : Str} (hc : g.X.calm = true) (hm : g.X.mg "sorted" = none) (hi : Γ[i]? = some (.k ad kvs) := by rfl) (hN : g.X.N[i]? = some n := by rfl)
    (hv : Vis g.X.env.scope n := by first | exact Or.inl rfl | exact Or.inr (Or.inl rfl) | exact Or.inr (Or.inr rfl)) (hd : (n == ("__debug__" : Str)) = false := by decide) (hcd : (n == ("__classdict__" : Str)) = false := by decide)
    (hg : Gl g.X "sorted" := by rfl) (he : starEach [.Name n p2] g.X.env = [(false, eval (.Name n p2) g.X.env)] := by rfl) : CN g (.Call (.Name "sorted" p1) [.Name n p2] [] pos) Γ (.of (sortK kvs)) := .mk fun F H σ Q E p => by
  refine wE_of (pe_callB (call_sortedDI hc) hg hm (by decide +kernel) (pa_cons (pe_var hN hv hd hcd) pa_nil he) (by decide) (by decide) he (by rfl)) ?_
  obtain ⟨o, h1, ws, rfl, hb, hf, hh, ra⟩ := E.sl i _ hi
  refine ⟨_, h1, ?_⟩
  unfold sortK at p
  cases q : keysI kvs with
  | none =>
    rw [q] at p
    exact (show False from p).elim
  | some ns =>
    rw [q] at p
    have p2 : Post g (rN g.X.K g.C) F H σ Q (.of (if ns.length < 64 then some (ns.mergeSort.map D.int) else none)) := p
    split at p2
    case isFalse => exact (show False from p2).elim
    rename_i hl
    refine ⟨ad, ws, ns, rfl, .inl hh, keysI_of ra q, hl, fun ys q hp hs hq => ?_⟩
    refine p2 _ _ _ (Gr.own E.ef hq) ⟨q, _, rfl, hq, E.ef.back hq, upd_same, ?_⟩
    rw [srt_unique hp hs]
    exact RpA.of_ints _
end
end DL
end
section
set_option Elab.async false
set_option linter.all false
set_option maxRecDepth 100000
set_option maxHeartbeats 2000000
set_option autoImplicit false
namespace DL
open PySem PySem.Spec PyProof.Rows L2
variable [TN]
theorem RpA.rev {K : PySem.W.Frag} {C : Ctab} {F : Hp} : ∀ {vs : List V} {ds : List D}, RpA K C F vs ds → RpA K C F vs.reverse ds.reverse
  | _, _, .nil => .nil
  | _, _, .cons r t => by
    rw [List.reverse_cons, List.reverse_cons]
    exact (RpA.rev t).append (.one r)
section
variable {g : G} {Γ : List Sl} {e : Expr} {pos p1 p2 p3 : Pos} {k : Nat}
/-- xs[::-1] -/
theorem cn_revL {r : R (List D)} (h : CL g e Γ r) : CN g (.Subscript e (.Slice none none (some (.UnaryOp .USub (.Constant (.int 1) k p1) p2)) p3) pos) Γ (r >>= fun xs => .ok xs.reverse) := .mk fun F H σ Q E p => by
  refine wE_of (pe_revL (pe_w _ e)) (h F H σ _ E (p.seq fun xs v F1 H1 g1 r1 p1 => ?_))
  obtain ⟨q, vs, rfl, hs, ra⟩ := r1
  refine ⟨q, vs, rfl, hs, fun l hl => ?_⟩
  exact p1 _ _ _ (Gr.own g1.fh hl) ⟨l, _, rfl, hl, g1.fh.back hl, upd_same, ra.rev⟩
/-- {} -/
theorem ck_nil : CG g (rK g.X.K g.C) (.Dict [] [] pos) Γ (.ok []) := .mk fun F H σ Q E p => by
  refine wE_of pe_dnewK fun q hq => ?_
  exact p _ F _ (Gr.own E.toBas.ef hq) ⟨q, [], rfl, hq, E.toBas.ef.back hq, upd_same, .nil⟩
end
end DL
end
section
set_option Elab.async false
set_option linter.all false
set_option maxRecDepth 100000
set_option maxHeartbeats 4000000
set_option autoImplicit false
/-! Own errors over any built-in base. -/
namespace PySem.DLE
open PySem.W PySem.Calls PySem.HandSPX PyProof.Rows Builtin Builtin.ObjectAttr
/-- own classes, then the row of a built-in one -/
def refsT (tl : List Value) : List Value → Bool
  | .ref _ :: r => refsT tl r
  | l => l == tl
theorem refsT_cases {tl : List Value} (l : List Value) (e : refsT tl l = true) : (∃ c r, l = .ref c :: r ∧ refsT tl r = true) ∨ l = tl := by
  cases l with
  | nil => exact .inr (beq_iff_eq.mp e)
  | cons a r => cases a <;> first | exact .inl ⟨_, _, rfl, e⟩ | exact .inr (beq_iff_eq.mp e)
/-- what the library knows of a built-in base -/
structure EBs (B : String) (tl : List Value) (new init : String) : Prop where
  f : ExcBaseFacts B new init tl
  s : StoreFacts B tl "object.__setattr__" "object"
  o : tl.contains (.type "object") = true
  n : tl.isEmpty = false
  hi : PySem.W.handedIn (.builtin init) = true
  ty : typeOf (.type B) = pure (.type "type")
  ns : Manifest.isStub B = false
  bt : bootBuiltins B = some (.type B)
section
variable {B new init : String} {tl : List Value}
theorem EBs.pass (b : EBs B tl new init) (x : Value) (l : List Value) : refsT tl l = true → refuseLoop x "__setattr__" l = pure () := by
  induction l with
  | nil =>
    intro h
    rcases refsT_cases [] h with ⟨_, _, z, _⟩ | z
    · cases z
    · rw [z]
      exact b.s.passes x
  | cons v r ih =>
    intro h
    rcases refsT_cases (v :: r) h with ⟨c, r', z, h'⟩ | z
    · obtain ⟨rfl, rfl⟩ := List.cons.inj z
      rw [refuseLoop_ref]
      exact ih h'
    · rw [z]
      exact b.s.passes x
theorem refsT_has (X : String) (l : List Value) : refsT tl l = true → l.contains (.type X) = tl.contains (.type X) := by
  induction l with
  | nil =>
    intro h
    rcases refsT_cases [] h with ⟨_, _, z, _⟩ | z
    · cases z
    · rw [z]
  | cons v r ih =>
    intro h
    rcases refsT_cases (v :: r) h with ⟨c, r', z, h'⟩ | z
    · obtain ⟨rfl, rfl⟩ := List.cons.inj z
      rw [List.contains_cons, ih h']
      rfl
    · rw [z]
theorem refsT_some (b : EBs B tl new init) {l : List Value} (h : refsT tl l = true) : l.isEmpty = false := by
  cases l with
  | nil =>
    rcases refsT_cases [] h with ⟨_, _, z, _⟩ | z
    · cases z
    · have := b.n
      rw [← z] at this
      cases this
  | cons _ _ => rfl
theorem eb_VE : EBs "ValueError" [.type "ValueError", .type "Exception", .type "BaseException", .type "object"] "ValueError.__new__" "ValueError.__init__" := ⟨F.excBase_ValueError, F.store_ValueError, by decide +kernel, rfl, by decide +kernel, by kernel_rfl, by decide +kernel, by decide +kernel⟩
theorem eb_OE : EBs "OverflowError" [.type "OverflowError", .type "ArithmeticError", .type "Exception", .type "BaseException", .type "object"] "OverflowError.__new__" "OverflowError.__init__" := ⟨F.excBase_OverflowError, F.store_OverflowError, by decide +kernel, rfl, by decide +kernel, by kernel_rfl, by decide +kernel, by decide +kernel⟩
theorem eb_LE : EBs "LookupError" [.type "LookupError", .type "Exception", .type "BaseException", .type "object"] "LookupError.__new__" "LookupError.__init__" := ⟨F.excBase_LookupError, F.store_LookupError, by decide +kernel, rfl, by decide +kernel, by kernel_rfl, by decide +kernel, by decide +kernel⟩
end

section
variable {M : Model} {A : Around} {E : Value → Shared → Prop} {h : Heap} {g : Array GenState} {d : Drawn} {t : Nat} {os : OsState}
variable {nm q : Str} {C N : Addr} {bs bm tl : List Value} {hdct : Bool} {sn : List Str} {sub : List Value} {ab : Bool} {col : Option Bool} {dd : Option Addr} {k0 k1 k2 k3 k5 : Option Value} {B new init : String}
theorem chk_new (b : EBs B tl new init) (hm : refsT tl bm = true) {rest : List Value} {kw : List (Str × Value)} {Q : Unit → Shared → Prop} (hC : h.get? C = some (excClassObj nm q C N bs bm hdct sn sub ab col dd k0 k1 k2 k3 k5 new)) (hq : Q () ⟨h, g, d, t, os⟩) :
    wpAny M A (checkBuiltinCall new ⟨.ref C :: rest, kw⟩) Q E ⟨h, g, d, t, os⟩ := by
  have c1 : (Value.ref C :: bm).contains (.type B) = true := by rw [List.contains_cons, refsT_has B bm hm, b.f.hasB, Bool.or_true]
  have c2 := b.f.noStar
  simp only [checkBuiltinCall, b.f.newKind, b.f.newSplit, b.f.newRow]
  repeat (first | refine wpAny_loadPart_at hC ?_ | (refine wpAny_isSubtype_exc hC ?_; rw [c1]) | refine wpAny_staticBase_exc hC ?_ | refine wpAny_madeBy_exc hC ?_ | simp only [bne_self_eq_false, Bool.false_eq_true, if_false] | wp_step)
  exact hq
theorem chk_ini (b : EBs B tl new init) (hm : refsT tl bm = true) {e : Addr} {oe : Obj} {rest : List Value} {Q : Unit → Shared → Prop} (hC : h.get? C = some (excClassObj nm q C N bs bm hdct sn sub ab col dd k0 k1 k2 k3 k5 new)) (he : h.get? e = some oe)
    (hc : oe.cls = .ref C) (hq : Q () ⟨h, g, d, t, os⟩) : wpAny M A (checkBuiltinCall init ⟨.ref e :: rest, []⟩) Q E ⟨h, g, d, t, os⟩ := by
  have c1 : (Value.ref C :: bm).contains (.type B) = true := by rw [List.contains_cons, refsT_has B bm hm, b.f.hasB, Bool.or_true]
  have c2 := b.f.noStar
  simp only [checkBuiltinCall, b.f.initKind, b.f.initSplit, b.f.initRow]
  repeat (first | (with_reducible refine wpAny_loadPart_at he ?_; rw [hc]) | with_reducible refine wpAny_loadPart_at hC ?_ | (with_reducible refine wpAny_isSubtype_exc hC ?_; rw [c1]) | wp_step)
  refine wpAny_onRaise ?_
  rw [show ∀ (x y : String) (n : Nat), Bind.check ⟨.positional, "*", B, .self, [⟨"args", .varPos, false⟩]⟩ x y n (List.map (fun z => z.fst) ({ pos := Value.ref e :: rest } : Args).kw) = pure () from fun x y n => check_star_args _ _ _ _ _ _]
  exact wpAny_pure hq
end
section
variable {prog : Program} {w : World} {A : Around} {E : Value → Shared → Prop} {R : Result → Shared → Prop} {h : Heap} {g : Array GenState} {d : Drawn} {t : Nat} {os : OsState}
variable {nm q : Str} {C N : Addr} {bs bm tl : List Value} {hdct : Bool} {sn : List Str} {sub : List Value} {ab : Bool} {col : Option Bool} {dd : Option Addr} {k0 k1 k2 k3 k5 : Option Value} {B new init : String}
theorem go_new (b : EBs B tl new init) (hm : refsT tl bm = true) {rest : List Value} {kw : List (Str × Value)} (hC : h.get? C = some (excClassObj nm q C N bs bm hdct sn sub ab col dd k0 k1 k2 k3 k5 new))
    (hq : R (.ok (.ret (.ref (h.objs.size + 1)))) ⟨(h.push (W.kdv_tup rest)).push (excO C h.objs.size), g, d, t, os⟩) (hz : rest.length ≤ sizeLine) : codeAny (model prog w) A (.builtin new ⟨.ref C :: rest, kw⟩) R ⟨h, g, d, t, os⟩ := by
  have c0 := b.f.ends
  have c1 : (Value.ref C :: bm).contains (.type B) = true := by rw [List.contains_cons, refsT_has B bm hm, b.f.hasB, Bool.or_true]
  have c2 : (Value.ref C :: bm).contains (.type "AttributeError") = false := by rw [List.contains_cons, refsT_has _ bm hm, b.f.noAttr] <;> rfl
  have c3 : (Value.ref C :: bm).contains (.type "NameError") = false := by rw [List.contains_cons, refsT_has _ bm hm, b.f.noName] <;> rfl
  refine codeAny_builtinAt b.f.entry ?_
  unfold Builtin.«BaseException.__new__»
  refine wpAt_bind ?_
  show wpAt _ _ _ (stack >>= _) _ _ _
  refine wpAt_bind (wpAt_stack fun p below => wpAt_of_wpAny ?_)
  wp_walk
  refine wpAt_of_wpAny ?_
  rw [b.f.owner]
  repeat (first | with_reducible refine wpAny_madeHere_exc b.f.canon hC ?_ | with_reducible refine wpAny_loadPart_at hC ?_ | (with_reducible refine wpAny_isSubtype_exc hC ?_; first | rw [c1] | rw [c2] | rw [c3]) | wp_step)
  show R _ _
  rw [Heap.size_push]
  exact hq
theorem go_type (b : EBs B tl new init) (hm : refsT tl bm = true) {rest : List Value} {kw : List (Str × Value)} {fI : Addr} {Q : Fin → Shared → Prop} (hC : h.get? C = some (excClassObj nm q C N bs bm hdct sn sub ab col dd k0 k1 k2 k3 k5 new))
    (hi : W.Looks (model prog w) h (typeLookup (.ref C) "__init__") (some (.ref fI))) (hb : ∀ self, W.Looks (model prog w) h (bindSpecial (.ref fI) self) (.ref fI, [self])) (hz : rest.length ≤ sizeLine)
    (hq : codeAny (model prog w) A (.call (.ref fI) ⟨.ref (h.objs.size + 1) :: rest, kw⟩) (fun r s' => match r with | .ok (.ret v) => v = .none ∧ Q (.done (.ret (.ref (h.objs.size + 1)))) s' | .ok _ => False | .error e => E e s') ⟨(h.push (W.kdv_tup rest)).push (excO C h.objs.size), g, d, t, os⟩) :
    wpAny (model prog w) A (Builtin.«type.__call__» ⟨.ref C :: rest, kw⟩) Q E ⟨h, g, d, t, os⟩ := by
  repeat (first | with_reducible refine wpAny_loadPart_at hC ?_ | with_reducible refine wpAny_madeBy_exc hC ?_ | wp_step)
  refine codeAny_call_builtin_code (Code.quiet_builtin _ b.f.quiet) (chk_new b hm hC ?_)
  refine go_new b hm hC ?_ hz
  show wpAny _ _ _ _ _ _
  have kk : ∀ c o, h.get? c = some o → ((h.push (W.kdv_tup rest)).push (excO C h.objs.size)).get? c = some o := fun c o e => Heap.get?_push_of_some _ (Heap.get?_push_of_some _ e)
  have hC2 := kk _ _ hC
  have hx : ((h.push (W.kdv_tup rest)).push (excO C h.objs.size)).get? (h.objs.size + 1) = some (excO C h.objs.size) := by heap_get
  have hs : (Value.ref C :: bm).contains (.ref C) = true := by simp
  have i1 := hi.keeps kk
  have b1 := (hb (.ref (h.objs.size + 1))).keeps kk
  unfold isInstance
  repeat (first | with_reducible refine wpAny_loadPart_at hx ?_ | (with_reducible refine wpAny_isSubtype_exc hC2 ?_; rw [hs]) | wp_step)
  show wpAny _ _ (typeLookup (.ref C) _) _ _ _
  refine i1.at ?_
  refine wpAny_holding (wpAny_bind (b1.at ?_))
  refine wpAny_bind (wpAny_call (codeAny_mono hq fun r s' z => ?_))
  rcases r with e | (v | _ | _ | _) <;> first | exact z | exact z.elim | skip
  obtain ⟨rfl, z⟩ := z
  first
    | exact wpAny_pure (wpAny_pure z)
    | (wp_walk; exact z)
theorem go_call (b : EBs B tl new init) (hm : refsT tl bm = true) {rest : List Value} {kw : List (Str × Value)} {fI : Addr} (hC : h.get? C = some (excClassObj nm q C N bs bm hdct sn sub ab col dd k0 k1 k2 k3 k5 new))
    (hi : W.Looks (model prog w) h (typeLookup (.ref C) "__init__") (some (.ref fI))) (hb : ∀ self, W.Looks (model prog w) h (bindSpecial (.ref fI) self) (.ref fI, [self])) (hz : rest.length ≤ sizeLine)
    (hq : codeAny (model prog w) (A.under (.builtin "type.__call__" ⟨.ref C :: rest, kw⟩)) (.call (.ref fI) ⟨.ref (h.objs.size + 1) :: rest, kw⟩) (W.InitBack (h.objs.size + 1) R) ⟨(h.push (W.kdv_tup rest)).push (excO C h.objs.size), g, d, t, os⟩) :
    codeAny (model prog w) A (.call (.ref C) ⟨rest, kw⟩) R ⟨h, g, d, t, os⟩ := by
  have l1 := tc_lookup
  have l2 := tc_bind (.ref C)
  have ht : (⟨h, g, d, t, os⟩ : Shared).TypeIs (.ref C) "type" := ⟨_, hC, rfl⟩
  refine codeAny_of_tree ?_
  show wpAny _ _ (callAny (.ref C) _) _ _ _
  repeat (any_goals (first | assumption | with_reducible refine wpAny_loadPart_at hC ?_ | wp_step))
  refine ⟨rfl, ?_⟩
  refine codeAny_call_builtin_at (Code.quiet_builtin _ (by decide +kernel)) entry_typeCall (wpAny_check_type_call_sub hC (go_type b hm hC hi hb hz ?_))
  refine codeAny_mono hq fun r s' z => ?_
  rcases r with e | (v | _ | _ | _) <;> exact z
/-- the base's __init__: the args are laid anew, at the end -/
theorem go_init (b : EBs B tl new init) (hm : refsT tl bm = true) {e t0 : Addr} {rest : List Value} (hC : h.get? C = some (excClassObj nm q C N bs bm hdct sn sub ab col dd k0 k1 k2 k3 k5 new)) (he : h.get? e = some (excO C t0)) (hz : rest.length ≤ sizeLine)
    (hq : ∀ h', (∀ c o, c ≠ e → (h.push (W.kdv_tup rest)).get? c = some o → h'.get? c = some o) → h'.get? e = some (excO C h.objs.size) → R (.ok (.ret .none)) ⟨h', g, d, t, os⟩) : codeAny (model prog w) A (.call (.builtin init) ⟨.ref e :: rest, []⟩) R ⟨h, g, d, t, os⟩ := by
  refine codeAny_call_builtin b.f.init.plain b.f.initEntry (chk_ini b hm hC he rfl ?_)
  wp_walk
  refine hq _ (fun c o hb ho => ?_) ?_
  · rw [Heap.get?_update_other _ _ (Ne.symm hb)]
    exact ho
  · rw [Heap.get?_update_self _ (Heap.get?_push_of_some _ he) rfl] <;> rfl
/-- the first field of such an error -/
theorem go_set (b : EBs B tl new init) {K : W.Frag} {name : Str} {tk : Tok} {v : Value} {x : Addr} {fv : Array Value} {cd : ClassData} {hp : Heap}
    (X : K.In hp) (hx : hp.get? x = some { cls := .ref C, data := .fields fv }) (hcd : W.clsIn K C = some cd) (hm : refsT tl cd.mro = true) (hh : cd.hasDict = true) (ha : W.findIn K (.ref C) name = some none)
    (hq : ∀ h' tk' dx, (∀ c o, c ≠ x → hp.get? c = some o → h'.get? c = some o) → hp.objs.size ≤ dx → dx ≠ x → h'.get? x = some { cls := .ref C, dict := some dx, data := .fields fv } → h'.Ns1 dx (fun y => if y = name then some v else none) → R (.ok (.ret .none)) ⟨h', g, d, tk', os⟩) :
    codeAny (model prog w) A (.call (.builtin "object.__setattr__") ⟨[.ref x, .str name tk, v], []⟩) R ⟨hp, g, d, t, os⟩ := by
  have I1 : W.InstAt hp x { cls := .ref C, data := .fields fv } C none := ⟨hx, rfl, rfl, trivial⟩
  have SF := F.store_object
  have ne := refsT_some b hm
  have ob : cd.mro.contains (.type "object") = true := (refsT_has "object" _ hm).trans b.o
  have xs : x ≠ hp.objs.size := Nat.ne_of_lt (Heap.lt_size hx)
  have su : W.Looks (model prog w) hp (isInstance (.ref x) (.type "object")) true := I1.type.andThen (W.looks_mroIn X (by unfold W.mroIn; rw [hcd, Option.bind_some, if_neg (by rw [ne]; decide), ob]))
  refine codeAny_call_builtin SF.slot.plain SF.entry (@W.check_slot (model prog w) _ _ ⟨hp, g, d, t, os⟩ "object.__setattr__" "object" "__setattr__" (.ref x) [.str name tk, v] [] _ SF.kind SF.split su (SF.args (.ref x) (.str name tk) v) ?_)
  have hr : W.Looks (model prog w) hp (mroOf (.ref C)) cd.mro := (W.looks_clsIn X hcd).andThen .now
  have L0 : W.Looks (model prog w) hp (storeTaker? none) none := .now
  have hcls : W.Looks (model prog w) hp (classData C) cd := W.looks_clsIn X hcd
  rw [W.osa_eq, refuse_eq]
  refine wpAny_bind (wpAny_bind (I1.type.at (wpAny_bind (hr.at ?_))))
  rw [b.pass _ _ hm]
  refine wpAny_pure (wpAny_bind (I1.type.at (wpAny_bind ((W.looks_findIn X ha).at (wpAny_bind (L0.at ?_))))))
  show wpAny _ _ (storeInOwnDict (.ref x) (.ref C) (.str name tk) name v false) _ _ _
  obtain ⟨nm, bs, mro, ns, qn, hd, sn, sb, ab, col, del⟩ := cd
  dsimp only at hh
  subst hh
  unfold storeInOwnDict ownDictForStores
  repeat (first | with_reducible refine store_in_new ?_ ?_ | with_reducible refine wpAny_loadPart_at hx ?_ | with_reducible refine hcls.at ?_ | wp_step)
  · exact ⟨_, #[], _, (Heap.get?_update_ne _ _ _ _ xs.symm).trans (Heap.get?_push_at rfl rfl), rfl, fun z hz => absurd hz (by simp), fun _ => rfl⟩
  · intro h' tk' hn' hs
    have h1 : (hp.push { cls := .type "dict", data := .dict #[] }).get? x = some { cls := .ref C, data := .fields fv } := Heap.get?_push_of_some _ hx
    refine hq h' tk' hp.objs.size (fun c o hb ho => ?_) (Nat.le_refl _) xs.symm ?_ hn'
    · exact (hs.2 c (Nat.ne_of_lt (Heap.lt_size ho))).trans ((Heap.get?_update_ne _ _ _ _ hb).trans (Heap.get?_push_of_some _ ho))
    · exact (hs.2 x xs).trans (Heap.get?_update_self _ h1 rfl)
end
end PySem.DLE
end
section
set_option Elab.async false
set_option linter.all false
set_option maxRecDepth 100000
set_option maxHeartbeats 4000000
set_option autoImplicit false
namespace DL
open PySem PySem.Spec PyProof.Rows L2 PySem.DLE
/-! ## own errors over any built-in base, over the abstract heap -/
structure OexG (K : PySem.W.Frag) (B : String) (tl : List Value) (new init : String) (C : Addr) : Prop where
  b : EBs B tl new init
  cls : ∃ nm q N bs bm sn sub ab col dd k0 k1 k2 k3 k5, K.lookup C = some (excClassObj nm q C N bs bm true sn sub ab col dd k0 k1 k2 k3 k5 new) ∧ refsT tl bm = true
  sa : PySem.W.findIn K (.ref C) "__setattr__" = some (some (.builtin "object.__setattr__"))
  exC : PySem.W.subIn K (.ref C) (.type "BaseException") = some true
  tyC : PySem.W.typeIn K (.ref C) = some (.type "type")
  kC : PySem.W.keepIn K (.ref C) = true
abbrev exqO (C : Addr) (d : Option Addr) (t : Addr) : Obj := { cls := .ref C, dict := d, data := .fields #[.ref t, .none, .none, .none, .bool false, .none] }
theorem exq_own {e C x t : Addr} {d : Option Addr} : exq e C d t ≠ .own x := fun z => nomatch (show HO.ext _ = HO.own x from z)
theorem exq_tup {e C t : Addr} {d : Option Addr} {xs : List V} : exq e C d t ≠ .tup xs := fun z => nomatch (show HO.ext _ = HO.tup xs from z)
theorem exq_frz {e C t : Addr} {d : Option Addr} {o : Obj} {u : HO} : exq e C d t ≠ .frz o u := fun z => nomatch (show HO.ext _ = HO.frz o u from z)
theorem exq_tbl {e C t : Addr} {d : Option Addr} {ps : Array Value} : exq e C d t ≠ .tbl ps := fun z => nomatch (show HO.ext _ = HO.tbl ps from z)
theorem exq_ok {P : Program} {w : World} {H : Hp} {h : Heap} {e C t : Addr} {d : Option Addr} (he : h.get? e = some (exqO C d t)) : ObjOk P w H h e (exq e C d t) := ⟨he, ⟨_, he⟩, fun h1 h2 z k => k _ z⟩
theorem exq_at {P : Program} {w : World} {H : Hp} {h : Heap} {e C t : Addr} {d : Option Addr} (hok : HOk P w H h) (he : H e = some (exq e C d t)) : h.get? e = some (exqO C d t) := by
  have x : ObjOk P w H h e (.ext fun h => h.get? e = some (exqO C d t)) := hok e _ he
  exact x.1
theorem upd_over {H : Hp} {a : Addr} {o1 o2 : HO} : upd (upd H a o1) a o2 = upd H a o2 := by
  funext b
  by_cases h : b = a
  · rw [h, upd_same, upd_same]
  · rw [upd_ne h, upd_ne h, upd_ne h]
theorem upd_swap {H : Hp} {a d : Addr} {o1 o2 : HO} (h : d ≠ a) : upd (upd H a o1) d o2 = upd (upd H d o2) a o1 := by
  funext b
  by_cases h1 : b = d
  · rw [h1, upd_same, upd_ne h, upd_same]
  · rw [upd_ne h1]
    by_cases h2 : b = a
    · rw [h2, upd_same, upd_same]
    · rw [upd_ne h2, upd_ne h2, upd_ne h1]
section
variable {X : Cx} {pins : List (Addr × Obj)} {σ : L2.St} {H : Hp} {s : Shared} {a C dx t0 : Addr} {f : Str} {y : V} {u : Value} {E : Value → Shared → Prop} {A : Around} {B new init : String} {tl : List Value}
theorem ob_new {Q : Unit → Shared → Prop} (T : OexG X.K B tl new init C) (I : Inv X pins σ H s) (e : H a = some (exq a C none t0)) (hno : PySem.W.findIn X.K (.ref C) f = some none) (ry : RelV y u)
    (h : ∀ dx s', H dx = none → dx ≠ a → Inv X pins σ (upd (upd H dx (exd dx [(f, y)])) a (exq a C (some dx) t0)) s' → Q () s') : wpAny (model X.prog X.w) A (setAttr (.ref a) f u) Q E s := by
  obtain ⟨nm, q, N, bs, bm, sn, sub, ab, col, dd, k0, k1, k2, k3, k5, hC, hbm⟩ := T.cls
  have hcl : PySem.W.clsIn X.K C = some { name := nm, bases := bs, mro := .ref C :: bm, ns := N, qualname := q, hasDict := true, slotNames := sn, subclasses := sub, abstract := ab, collection := col, hasDel := false } := by
    unfold PySem.W.clsIn
    rw [hC] <;> rfl
  have ho := exq_at I.hok e
  obtain ⟨hp, g, d, t, os⟩ := s
  refine PySem.W.set_plain I.kIn (ox := exqO C none t0) (od := none) ⟨ho, rfl, rfl, trivial⟩ T.sa ?_
  refine go_set T.b I.kIn ho hcl (show refsT tl (.ref C :: bm) = true from hbm) rfl hno (fun h' tk' dx k dn dne hx hn => ?_)
  have hnd : H dx = none := I.hok.fresh dn
  have nd : ∀ {b : Addr} {o : Obj}, hp.get? b = some o → b ≠ dx := fun {b o} z => Nat.ne_of_lt (Nat.lt_of_lt_of_le (Heap.lt_size z) dn)
  have na : ∀ {b : Addr}, H b = none → b ≠ a := fun {b} n z => by
    rw [z, e] at n
    cases n
  have U : Un X.fs [] H (upd (upd H dx (exd dx [(f, y)])) a (exq a C (some dx) t0)) hp h' := {
    keep := fun b o z n _ _ => k b o (na n) z
    slot := fun b o z n _ _ => ⟨o.slots, k b o (na n) z⟩
    free := fun b o z n _ => by
      rw [upd_ne (na n), upd_ne (nd z)]
      exact n
    there := fun b o z _ => by
      by_cases hb : b = a
      · exact ⟨_, by rw [hb]; exact hx⟩
      · exact ⟨o, k b o hb z⟩
    tups := fun b xs z => by
      rw [upd_ne (at_ne e z exq_tup), upd_ne (ne_of_none z hnd)]
      exact z
    frzs := fun b o v z => by
      rw [upd_ne (at_ne e z exq_frz), upd_ne (ne_of_none z hnd)]
      exact z
    tbls := fun b ps z => ⟨#[], by
      rw [upd_ne (at_ne e z exq_tbl), upd_ne (ne_of_none z hnd), z]
      simp⟩ }
  refine h dx _ hnd dne (I.un (t' := tk') U fun b o z => ?_)
  by_cases hb : b = a
  · subst hb
    rw [upd_same] at z
    cases z
    exact exq_ok hx
  · rw [upd_ne hb] at z
    by_cases hd : b = dx
    · subst hd
      rw [upd_same] at z
      cases z
      exact exd_ok hn (relO_put (fs := []) ry fun g => True.intro)
    · rw [upd_ne hd] at z
      exact (I.hok b o z).stay (fun c v hc y => k c v (by
          rcases hc with hc | hc
          · rw [hc]
            exact hb
          · exact at_ne e hc exq_own) y)
        (fun c hc => by
          rw [upd_ne (at_ne e hc exq_own), upd_ne (ne_of_none hc hnd)]
          exact hc)
        (fun c xs hc => by
          rw [upd_ne (at_ne e hc exq_tup), upd_ne (ne_of_none hc hnd)]
          exact hc)
/-- the base's __init__ -/
theorem ob_init {us : List Value} {ws : List V} {Q : Value → Shared → Prop} (T : OexG X.K B tl new init C) (I : Inv X pins σ H s) (e : H a = some (exq a C none t0)) (r : Vals ws us) (hl : ws.length ≤ sizeLine)
    (h : ∀ t1 s', H t1 = none → t1 ≠ a → Inv X pins σ (upd (upd H t1 (.tup ws)) a (exq a C none t1)) s' → Q .none s') : wpAny (model X.prog X.w) A (call (.builtin init) (.ref a :: us)) Q E s := by
  obtain ⟨nm, q, N, bs, bm, sn, sub, ab, col, dd, k0, k1, k2, k3, k5, hC, hbm⟩ := T.cls
  have ho := exq_at I.hok e
  obtain ⟨hp, g, d, t, os⟩ := s
  have na : hp.objs.size ≠ a := (Nat.ne_of_lt (Heap.lt_size ho)).symm
  have hn : H hp.objs.size = none := I.hok.fresh (Nat.le_refl _)
  refine wpAny_call (go_init T.b hbm (I.kIn _ _ hC) ho (by rw [← Paired.length r]; exact hl) fun h' k hx => ?_)
  have I1 : Inv X pins σ (upd H hp.objs.size (.tup ws)) ⟨hp.push (PySem.W.kdv_tup us), g, d, t, os⟩ := I.laid (t' := t) (fun b v z => Heap.get?_push_of_some _ z) (Nat.le_refl _) (show ObjOk X.prog X.w _ _ _ (.tup ws) from ⟨hl, us, r, IsTup.new _ _⟩)
  have I2 := I1.write (t' := t) (x := a) (e := a) (o := exq a C none hp.objs.size) (by rw [upd_ne na.symm, e]; exact True.intro) (.inl rfl) k ⟨_, hx⟩ (exq_ok hx)
  exact h _ _ hn na I2
end
/-! ### readings -/
section
variable {X : Cx} {o e : Expr} {es : List Expr} {to te : TE} {ta : TA} {f : Str} {p p' p1 p2 pos : Pos} {B new init : String} {tl : List Value}
/-- Base.__init__(self, ..) -/
def tIni (K : PySem.W.Frag) (B : String) (tl : List Value) (new init : String) (ta : TA) : TE := fun σ H Q => ta σ H fun vs H1 => ∃ (a C t0 : Addr) (ws : List V), vs = .ref a :: ws ∧ ws.length ≤ 1000 ∧ OexG K B tl new init C ∧ H1 a = some (exq a C none t0) ∧
  ∀ t1, H1 t1 = none → t1 ≠ a → Q .non (upd (upd H1 t1 (.tup ws)) a (exq a C none t1))
/-- self.f = e -/
def tOsq (K : PySem.W.Frag) (B : String) (tl : List Value) (new init : String) (f : Str) (to te : TE) : TS := fun D σ H => te σ H fun y H1 => to σ H1 fun x H2 => ∃ a C t0 : Addr, x = .ref a ∧ OexG K B tl new init C ∧ PySem.W.findIn K (.ref C) f = some none ∧
  H2 a = some (exq a C none t0) ∧ ∀ dx, H2 dx = none → dx ≠ a → D.nx σ (upd (upd H2 dx (exd dx [(f, y)])) a (exq a C (some dx) t0))
theorem pe_iniO {A : Addr} {b : Str} {pl : Sem Bool} (hg : Gl X b) (hm : X.mg b = some (.ref A)) (ga : PySem.W.specialIn X.K (.ref A) "__getattribute__" = some (some (.builtin "type.__getattribute__"))) (hr : PySem.W.readsIn X.K A (.type "type") = true)
    (vV : PySem.W.findCls X.K (.ref A) (.type "type") "__init__" = some (.val (.builtin init))) (b0 : EBs B tl new init) (ha : PA X (e :: es) ta)
    (hc : eval (.Call (.Attribute (.Name b p1) "__init__" p2) (e :: es) [] pos) X.env = (do
      let ov ← eval (.Name b p1) X.env
      standAt p2.atName
      let (f, first) ← holding [ov] (getMethod ov "__init__" pl)
      callWith pos f first (backTo pos (starEach (e :: es) X.env)) (backToKw pos (keywordEach [] X.env)))) (hdb : (b == ("__debug__" : Str)) = false)
    (he : starEach (e :: es) X.env = (false, eval e X.env) :: starEach es X.env := by rfl) (hpl : (backTo pos (starEach es X.env)).any (·.1) = false := by rfl) :
    PE X (.Call (.Attribute (.Name b p1) "__init__" p2) (e :: es) [] pos) (tIni X.K B tl new init ta) := by
  refine ⟨fun pins s σ H Q I h => ?_⟩
  refine PySem.W.methodCall_KW (ld_glob I hg hm ?_ hdb) hc
  refine PySem.W.method_cls I.kIn ga (PySem.W.cls_value I.kIn hr vV b0.hi ?_)
  show wpAny _ _ (callWith pos (Value.builtin init) [] (backTo pos (starEach (e :: es) X.env)) []) _ _ _
  refine PyProof.Rows.callWith_method1 (thn (ha.run pos pins _ σ H _ (I.tok _) h) fun us s1 ⟨vs, H1, I1, r1, a, C, t0, ws, ev, hl, T, ea, q⟩ => ?_) he hpl
  subst ev
  cases r1 with
  | @cons _ u0 _ ur ra rw' =>
    obtain rfl : u0 = Value.ref a := ra
    exact ob_init T I1 ea rw' (Nat.le_trans hl (by rw [sizeLine_eq]; decide)) fun t1 s' n1 n2 J => ⟨.non, _, J, rfl, q t1 n1 n2⟩
theorem pe_iniB {pl : Sem Bool} (hg : Gl X (Str.ofString B)) (hm : X.mg (Str.ofString B) = none) (vV : PySem.W.findCls X.K (.type B) (.type "type") "__init__" = some (.val (.builtin init))) (b0 : EBs B tl new init) (ha : PA X (e :: es) ta)
    (hc : eval (.Call (.Attribute (.Name (Str.ofString B) p1) "__init__" p2) (e :: es) [] pos) X.env = (do
      let ov ← eval (.Name (Str.ofString B) p1) X.env
      standAt p2.atName
      let (f, first) ← holding [ov] (getMethod ov "__init__" pl)
      callWith pos f first (backTo pos (starEach (e :: es) X.env)) (backToKw pos (keywordEach [] X.env)))) (hn : (Str.ofString B) ≠ "__name__") (hdb : ((Str.ofString B) == ("__debug__" : Str)) = false)
    (he : starEach (e :: es) X.env = (false, eval e X.env) :: starEach es X.env := by rfl) (hpl : (backTo pos (starEach es X.env)).any (·.1) = false := by rfl) :
    PE X (.Call (.Attribute (.Name (Str.ofString B) p1) "__init__" p2) (e :: es) [] pos) (tIni X.K B tl new init ta) := by
  refine ⟨fun pins s σ H Q I h => ?_⟩
  refine PySem.W.methodCall_KW (ld_blt I hg hm b0.bt ?_ hn hdb) hc
  obtain ⟨m, fr⟩ := I.fr
  refine PySem.W.method_type fr I.ok.mod.kin b0.ty b0.ns vV b0.hi ?_
  show wpAny _ _ (callWith pos (Value.builtin init) [] (backTo pos (starEach (e :: es) X.env)) []) _ _ _
  refine PyProof.Rows.callWith_method1 (thn (ha.run pos pins _ σ H _ (I.tok _) h) fun us s1 ⟨vs, H1, I1, r1, a, C, t0, ws, ev, hl, T, ea, q⟩ => ?_) he hpl
  subst ev
  cases r1 with
  | @cons _ u0 _ ur ra rw' =>
    obtain rfl : u0 = Value.ref a := ra
    exact ob_init T I1 ea rw' (Nat.le_trans hl (by rw [sizeLine_eq]; decide)) fun t1 s' n1 n2 J => ⟨.non, _, J, rfl, q t1 n1 n2⟩
theorem ps_osq (ho : PE X o to) (he : PE X e te) (hs : swapsWith e (some (.Attribute o f p')) pos.line X.env = pure false) : PS X (.Assign [.Attribute o f p'] e pos) (tOsq X.K B tl new init f to te) := by
  refine ⟨fun pins s σ H D I h => ?_⟩
  refine plainObj_wpAny_Assign_Attribute (thn (he.run pins s σ H _ I h) fun v s1 ⟨y, H1, I1, r1, q1⟩ => thn (ho.run pins s1 σ H1 _ I1 q1) fun u s2 ⟨x, H2, I2, r2, a, C, t0, ex, T, hno, ea, q⟩ => ?_) hs
  subst ex
  obtain rfl : u = Value.ref a := r2
  exact ob_new T I2 ea hno r1 fun dx s' n ne J => ⟨σ, _, J, q dx n ne⟩
end
/-! ### an own __init__(self, f) -/
/-- its promise -/
def spE (A : Addr) (f msg : Str) : Sp := fun vs H Q _ => ∃ a y t0, vs = [.ref a, y] ∧ H a = some (exq a A none t0) ∧ ∀ t1 dx, H t1 = none → H dx = none → t1 ≠ dx → t1 ≠ a → dx ≠ a → Q .non (upd (upd (upd H t1 (.tup [.str msg])) dx (exd dx [(f, y)])) a (exq a A (some dx) t1))
/-- what the written part says of an own error class x, at A, over B; it keeps f -/
structure ErG (K : PySem.W.Frag) (mg : Str → Option Value) (B : String) (tl : List Value) (new init : String) (x f : Str) (A fI : Addr) : Prop where
  gA : mg x = some (.ref A)
  T : OexG K B tl new init A
  X : XfC K A
  no : PySem.W.findIn K (.ref A) f = some none
  iA : PySem.W.findIn K (.ref A) "__init__" = some (some (.ref fI))
  tI : PySem.W.typeIn K (.ref fI) = some (.type "function")
section
variable {P : Program} {w : World} {K : PySem.W.Frag} {mg : Str → Option Value} {base : Heap} {B new init : String} {tl : List Value}
theorem init_okG {x b f msg qual : Str} {A fI : Addr} {fd : FuncData} {params : Arguments} {dvs : List V} {j : Nat} {p1 p2 p3 p4 p5 p6 q1 q2 q3 q4 : Pos} (T : ErG K mg B tl new init x f A fI)
    (hcall : ∀ (X : Cx) (ta : TA), X.K = K → X.mg = mg → X.env.scope = initS b f → PA X [.Name "self" p3, .Constant (.str msg) j p4] ta → PE X (.Call (.Attribute (.Name b p1) "__init__" p2) [.Name "self" p3, .Constant (.str msg) j p4] [] p5) (tIni X.K B tl new init ta))
    (F : FunD K "__init__" qual params (initB b msg f j p1 p2 p3 p4 p5 p6 q1 q2 q3 q4) (initS b f) dvs [] fI fd) (S : FnScope ["self", f] ["self", f] (initS b f)) (hs : (initS b f).names.lookup f = some .local) (hdf : (f == ("__debug__" : Str)) = false) (hcf : (f == ("__classdict__" : Str)) = false)
    (h1 : ∀ env : PySem.Env, swapsWith (.Call (.Attribute (.Name b p1) "__init__" p2) [.Name "self" p3, .Constant (.str msg) j p4] [] p5) none p6.line env = pure false) (h2 : ∀ env : PySem.Env, swapsWith (.Name f q3) (some (.Attribute (.Name "self" q1) f q2)) q4.line env = pure false)
    (he : ∀ env : PySem.Env, starEach [.Name "self" p3, .Constant (.str msg) j p4] env = (false, eval (.Name "self" p3) env) :: starEach [.Constant (.str msg) j p4] env) (he2 : ∀ env : PySem.Env, starEach [.Constant (.str msg) j p4] env = [(false, eval (.Constant (.str msg) j p4) env)]) :
    FnOk P w K mg base (L2.CX P w) 1 fI fd ["self", f] (spE A f msg) := by
  refine F.ok S (fun vs H Q E h => ?_) fun cdv Ar outer s H vs Q E hr h => ?_
  · obtain ⟨a, y, t0, rfl, _⟩ := h
    rfl
  · refine ⟨_, pss_cons (ps_expr (hcall _ _ rfl rfl rfl (pa_cons (pe_var (i := 0) rfl (Or.inl rfl) (by decide) (by decide)) (pa_cons pe_str pa_nil (he2 _)) (he _))) (h1 _))
      (pss_one (ps_osq (B := B) (tl := tl) (new := new) (init := init) (pe_var (i := 0) rfl (Or.inl rfl) (by decide) (by decide)) (pe_var (i := 1) rfl (Or.inl hs) hdf hcf) (h2 _))), ?_⟩
    obtain ⟨a, y, t0, rfl, ha, q⟩ := h
    refine ⟨_, rfl, a, A, t0, [.str msg], rfl, (by show 1 ≤ 1000; decide), T.T, ha, fun t1 n1 n2 => ⟨_, rfl, _, rfl, a, A, t1, rfl, T.T, T.no, upd_same, fun dx n3 n4 => ?_⟩⟩
    have n5 : t1 ≠ dx := fun z => by
      rw [← z, upd_ne n2, upd_same] at n3
      cases n3
    have n6 : H dx = none := by
      rw [upd_ne n4, upd_ne (Ne.symm n5)] at n3
      exact n3
    have e : upd (upd (upd (upd H t1 (.tup [.str msg])) a (exq a A none t1)) dx (exd dx [(f, y)])) a (exq a A (some dx) t1) = upd (upd (upd H t1 (.tup [.str msg])) dx (exd dx [(f, y)])) a (exq a A (some dx) t1) := by
      rw [upd_swap n4, upd_over]
    show Q .non _
    rw [e]
    exact q t1 dx n1 n6 n5 n2 n4
end
end DL
end
section
set_option Elab.async false
set_option linter.all false
set_option maxRecDepth 100000
set_option maxHeartbeats 4000000
set_option autoImplicit false
namespace DL
open PySem PySem.Spec PyProof.Rows L2 PySem.DLE
/-! ## such errors made: raised, or held as values -/
/-- the ways in which their __init__ is called -/
structure EBn (K : PySem.W.Frag) (fd : FuncData) (f : Str) (dv : Bool) : Prop where
  pos : ∀ (s : Shared) (a u : Value), K.In s.heap → BindsTo s fd ⟨[a, u], []⟩ [(("self" : Str), a), (f, u)]
  kw : ∀ (s : Shared) (a u : Value), K.In s.heap → BindsTo s fd ⟨[a], [(f, u)]⟩ [(("self" : Str), a), (f, u)]
  no : dv = true → ∀ (s : Shared) (a : Value), K.In s.heap → BindsTo s fd ⟨[a], []⟩ [(("self" : Str), a), (f, .none)]
section
variable {K : PySem.W.Frag} {x qual f : Str} {params : Arguments} {body : List Stmt} {scope : Scope} {fI : Addr} {fd : FuncData}
theorem ebn_D (F : FunD K x qual params body scope [.non] [] fI fd)
    (h1 : ∀ (T : Addr) (kV doc pm : Value) (an : Option Addr) (cdv ct a u d : Value), ∃ k, bindArgs (PySem.W.fnOf x qual params body scope (.ref T) kV doc pm an cdv ct) ⟨[a, u], []⟩ = seqItems? (.ref T) >>= k ∧ k (some #[d]) = pure [(("self" : Str), a), (f, u)])
    (h2 : ∀ (T : Addr) (kV doc pm : Value) (an : Option Addr) (cdv ct a u d : Value), ∃ k, bindArgs (PySem.W.fnOf x qual params body scope (.ref T) kV doc pm an cdv ct) ⟨[a], [(f, u)]⟩ = seqItems? (.ref T) >>= k ∧ k (some #[d]) = pure [(("self" : Str), a), (f, u)])
    (h3 : ∀ (T : Addr) (kV doc pm : Value) (an : Option Addr) (cdv ct a d : Value), ∃ k, bindArgs (PySem.W.fnOf x qual params body scope (.ref T) kV doc pm an cdv ct) ⟨[a], []⟩ = seqItems? (.ref T) >>= k ∧ k (some #[d]) = pure [(("self" : Str), a), (f, d)]) : EBn K fd f true := by
  obtain ⟨oc, od, dV, kV, doc, pm, an, cdv, ct, osl, rfl, lk, hcd, hD, hK⟩ := F.ex
  rcases hD with ⟨e, _⟩ | ⟨_, T, o, its, m, rfl, lT, oT, rT⟩
  · cases e
  · cases rT with
    | @cons _ d _ _ rd rr =>
      cases rr
      obtain rfl : d = Value.none := rd
      refine ⟨fun s a u X => BindsTo.of_looks fun M => ?_, fun s a u X => BindsTo.of_looks fun M => ?_, fun _ s a X => BindsTo.of_looks fun M => ?_⟩
      · obtain ⟨k, e1, e2⟩ := h1 T kV doc pm an cdv ct a u .none
        rw [e1]
        exact looks_items X lT oT (.of_pure e2)
      · obtain ⟨k, e1, e2⟩ := h2 T kV doc pm an cdv ct a u .none
        rw [e1]
        exact looks_items X lT oT (.of_pure e2)
      · obtain ⟨k, e1, e2⟩ := h3 T kV doc pm an cdv ct a .none
        rw [e1]
        exact looks_items X lT oT (.of_pure e2)
theorem ebn_0 (F : FunD K x qual params body scope [] [] fI fd)
    (h1 : ∀ (kV doc pm : Value) (an : Option Addr) (cdv ct a u : Value), bindArgs (PySem.W.fnOf x qual params body scope .none kV doc pm an cdv ct) ⟨[a, u], []⟩ = pure [(("self" : Str), a), (f, u)])
    (h2 : ∀ (kV doc pm : Value) (an : Option Addr) (cdv ct a u : Value), bindArgs (PySem.W.fnOf x qual params body scope .none kV doc pm an cdv ct) ⟨[a], [(f, u)]⟩ = pure [(("self" : Str), a), (f, u)]) : EBn K fd f false := by
  obtain ⟨oc, od, dV, kV, doc, pm, an, cdv, ct, osl, rfl, lk, hcd, hD, hK⟩ := F.ex
  rcases hD with ⟨_, rfl⟩ | ⟨e, _⟩
  · exact ⟨fun s a u X => .of_eq (h1 kV doc pm an cdv ct a u), fun s a u X => .of_eq (h2 kV doc pm an cdv ct a u), fun z => nomatch z⟩
  · exact absurd rfl e
end
theorem upd5 {H : Hp} {a t d : Addr} {q0 q1 ot oe od : HO} (h1 : t ≠ a) (h2 : d ≠ a) (h3 : t ≠ d) : upd (upd (upd (upd (upd H a q0) t ot) d oe) a q1) d od = upd (upd (upd H t ot) d od) a q1 := by
  rw [upd_swap h2, upd_over, upd_swap h1, upd_swap h2, upd_over]
section
variable {X : Cx} {pins : List (Addr × Obj)} {σ : L2.St} {H : Hp} {s : Shared} {A fI : Addr} {x f msg : Str} {y : V} {u : Value} {us : List Value} {kw : List (Str × Value)} {fd : FuncData} {B new init : String} {tl : List Value}
/-- the call: what stands there behind it -/
theorem run_err {Q : Value → Shared → Prop} (T : ErG X.K X.mg B tl new init x f A fI) (F1 : FnOk X.prog X.w X.K X.mg X.base (L2.CX X.prog X.w) 1 fI fd ["self", f] (spE A f msg)) (hr : Room 2 X.A) (tk : Passes (L2.CX X.prog X.w) X (fun _ _ _ => False)) (I : Inv X pins σ H s) (ry : RelV y u) (hus : us.length ≤ sizeLine)
    (hbt : ∀ (s : Shared) (a : Value), X.K.In s.heap → BindsTo s fd ⟨a :: us, kw⟩ [(("self" : Str), a), (f, u)])
    (h : ∀ (a t d : Addr) (hp2 h2 : Heap) (s' : Shared), s'.heap = h2 → s.heap.objs.size ≤ a → H a = none → H t = none → H d = none → t ≠ a → d ≠ a → t ≠ d → (∀ b o, s.heap.get? b = some o → hp2.get? b = some o) →
      Un (frs X.stack) [] (upd H a (exq a A none s.heap.objs.size)) (upd (upd (upd H t (.tup [.str msg])) d (exd d [(f, y)])) a (exq a A (some d) t)) hp2 h2 → HOk X.prog X.w (upd (upd (upd H t (.tup [.str msg])) d (exd d [(f, y)])) a (exq a A (some d) t)) h2 →
      s'.os = s.os → AllBare s'.gens → Inv X pins σ (upd (upd (upd H t (.tup [.str msg])) d (exd d [(f, y)])) a (exq a A (some d) t)) s' → Q (.ref a) s') :
    wpAny (model X.prog X.w) X.A (call (.ref A) us kw) Q X.xe s := by
  obtain ⟨nm, q, N, bs, bm, sn, sub, ab, col, dd, k0, k1, k2, k3, k5, hC, hbm⟩ := T.T.cls
  obtain ⟨hp, g, dr, tok, os⟩ := s
  have hsz : hp.objs.size ≤ hp.objs.size + 1 := Nat.le_succ _
  have hn : H (hp.objs.size + 1) = none := I.hok.fresh hsz
  have kk : ∀ b o, hp.get? b = some o → ((hp.push (PySem.W.kdv_tup us)).push (PySem.HandSPX.excO A hp.objs.size)).get? b = some o := fun b o e => Heap.get?_push_of_some _ (Heap.get?_push_of_some _ e)
  have hget : ((hp.push (PySem.W.kdv_tup us)).push (PySem.HandSPX.excO A hp.objs.size)).get? (hp.objs.size + 1) = some (PySem.HandSPX.excO A hp.objs.size) := by heap_get
  have I2 : Inv X pins σ (upd H (hp.objs.size + 1) (exq (hp.objs.size + 1) A none hp.objs.size)) ⟨(hp.push (PySem.W.kdv_tup us)).push (PySem.HandSPX.excO A hp.objs.size), g, dr, tok, os⟩ :=
    I.laid (t' := tok) (a := hp.objs.size + 1) (o := exq (hp.objs.size + 1) A none hp.objs.size) (h' := (hp.push (PySem.W.kdv_tup us)).push (PySem.HandSPX.excO A hp.objs.size)) kk hsz (exq_ok hget)
  have hq : spE A f msg [V.ref (hp.objs.size + 1), y] (upd H (hp.objs.size + 1) (exq (hp.objs.size + 1) A none hp.objs.size)) (fun v H2 => v = .non ∧ ∃ t d, H t = none ∧ H d = none ∧ t ≠ hp.objs.size + 1 ∧ d ≠ hp.objs.size + 1 ∧ t ≠ d ∧
      H2 = upd (upd (upd H t (.tup [.str msg])) d (exd d [(f, y)])) (hp.objs.size + 1) (exq (hp.objs.size + 1) A (some d) t)) (fun _ _ _ => False) :=
    ⟨_, y, _, rfl, upd_same, fun t1 dx n1 n2 n3 n4 n5 => ⟨rfl, t1, dx, by rwa [upd_ne n4] at n1, by rwa [upd_ne n5] at n2, n4, n5, n3, by rw [upd_swap n4, upd_swap n5, upd_over]⟩⟩
  have r2 : Vals [V.ref (hp.objs.size + 1), y] [Value.ref (hp.objs.size + 1), u] := .cons rfl (.cons ry .nil)
  refine wpAny_call (go_call T.T.b hbm (I.kIn _ _ hC) (PySem.W.looks_findIn I.kIn T.iA) (fun self => PySem.W.bind_fn I.kIn self T.tI) hus
    (codeAny_mono (F1.run _ X.stack _ _ ⟨Value.ref (hp.objs.size + 1) :: us, kw⟩ [Value.ref (hp.objs.size + 1), u] _ _ (fun _ _ _ => False) (hr.make A us kw) (I2.env0.make A us kw) (hbt _ _ I2.kIn) r2 hq) fun r s' hq' => ?_))
  cases r with
  | error er => exact tk pins σ _ _ er s' I2 hq'
  | ok fl =>
    cases fl with
    | ret v0 =>
      have hq2 := hq'
      obtain ⟨v, H', I3, rv, ev, t, d, n1, n2, n3, n4, n5, e⟩ := I2.after hq'
      obtain ⟨v', H2, os2, bare2, un2, hok2, rv', ev', t', d', m1, m2, m3, m4, m5, e'⟩ := hq2
      subst ev'
      subst e'
      obtain rfl : v0 = Value.none := rv'
      have J : Inv X pins σ (upd (upd (upd H t' (.tup [.str msg])) d' (exd d' [(f, y)])) (hp.objs.size + 1) (exq (hp.objs.size + 1) A (some d') t')) s' := by
        obtain ⟨h', g', dr', tok', os'⟩ := s'
        obtain rfl : os' = os := os2
        exact I2.call (h' := h') (g' := g') (d' := dr') (t' := tok') (ch := []) un2 hok2 bare2 (fun b z => absurd z (by simp))
      exact ⟨rfl, h _ t' d' _ _ s' rfl hsz hn m1 m2 m3 m4 m5 kk un2 hok2 os2 bare2 J⟩
    | next => exact False.elim hq'
    | brk => exact False.elim hq'
    | cont => exact False.elim hq'
/-- .. held as a value -/
theorem run_errV {Q : VK} (T : ErG X.K X.mg B tl new init x f A fI) (F1 : FnOk X.prog X.w X.K X.mg X.base (L2.CX X.prog X.w) 1 fI fd ["self", f] (spE A f msg)) (hr : Room 2 X.A) (tk : Passes (L2.CX X.prog X.w) X (fun _ _ _ => False)) (I : Inv X pins σ H s) (ry : RelV y u) (hus : us.length ≤ sizeLine)
    (hbt : ∀ (s : Shared) (a : Value), X.K.In s.heap → BindsTo s fd ⟨a :: us, kw⟩ [(("self" : Str), a), (f, u)])
    (h : ∀ a t d, H a = none → H t = none → H d = none → t ≠ a → d ≠ a → t ≠ d → Q (.ref a) (upd (upd (upd H t (.tup [.str msg])) d (.xd [(f, y)])) a (exq a A (some d) t))) :
    wpAny (model X.prog X.w) X.A (call (.ref A) us kw) (EP X pins σ Q) X.xe s := by
  refine run_err T F1 hr tk I ry hus hbt fun a t d hp2 h2 s' e0 hsz n1 n2 n3 n4 n5 n6 kk un hok ho hb J => ?_
  obtain ⟨h', g', dr', tok', os'⟩ := s'
  have ed : (upd (upd (upd H t (.tup [.str msg])) d (exd d [(f, y)])) a (exq a A (some d) t)) d = some (exd d [(f, y)]) := by rw [upd_ne n5, upd_same]
  obtain ⟨mA, hns, rel⟩ := exd_at J.hok ed
  have hd : ∃ o, h'.get? d = some o := by
    obtain ⟨o, _, _, e', _⟩ := hns
    exact ⟨o, e'⟩
  have J2 := J.write (t' := tok') (x := d) (e := d) (o := .xd [(f, y)]) (h' := h') (by rw [ed]; exact True.intro) (.inl rfl) (fun b o _ z => z) hd (show ObjOk X.prog X.w _ _ _ (.xd [(f, y)]) from ⟨mA, hns, rel⟩)
  have e : upd (upd (upd (upd H t (.tup [.str msg])) d (exd d [(f, y)])) a (exq a A (some d) t)) d (.xd [(f, y)]) = upd (upd (upd H t (.tup [.str msg])) d (.xd [(f, y)])) a (exq a A (some d) t) := by
    rw [upd_swap n5, upd_over]
  rw [e] at J2
  exact ⟨.ref a, _, J2, rfl, h a t d n1 n2 n3 n4 n5 n6⟩
/-- .. to be raised -/
theorem run_errR {Q : XK} (T : ErG X.K X.mg B tl new init x f A fI) (F1 : FnOk X.prog X.w X.K X.mg X.base (L2.CX X.prog X.w) 1 fI fd ["self", f] (spE A f msg)) (hr : Room 2 X.A) (tk : Passes (L2.CX X.prog X.w) X (fun _ _ _ => False)) (I : Inv X pins σ H s) (ry : RelV y u) (hus : us.length ≤ sizeLine)
    (hbt : ∀ (s : Shared) (a : Value), X.K.In s.heap → BindsTo s fd ⟨a :: us, kw⟩ [(("self" : Str), a), (f, u)])
    (h : ∀ t d, H t = none → H d = none → t ≠ d → Q (.ref A) (some d) (upd (upd H t (.tup [.str msg])) d (.xd [(f, y)]))) :
    wpAny (model X.prog X.w) X.A (call (.ref A) us kw) (MkP X pins σ Q) X.xe s := by
  refine run_err T F1 hr tk I ry hus hbt fun a t d hp2 h2 s' e0 hsz n1 n2 n3 n4 n5 n6 kk un hok ho hb J => ?_
  obtain ⟨hp, g, dr, tok, os⟩ := s
  obtain ⟨h', g', dr', tok', os'⟩ := s'
  obtain rfl : h' = h2 := e0
  have ea : (upd (upd (upd H t (.tup [.str msg])) d (exd d [(f, y)])) a (exq a A (some d) t)) a = some (exq a A (some d) t) := upd_same
  have ho2 := exq_at hok ea
  have up : ∀ {b : Addr}, b ≠ a → upd H a (exo a A none) b = upd H a (exq a A none hp.objs.size) b := fun z => by rw [upd_ne z, upd_ne z]
  have ua : ∀ {b : Addr}, upd H a (exo a A none) b = none → b ≠ a := fun {b} z q => by
    rw [q, upd_same] at z
    cases z
  have un' : Un (frs X.stack) [] (upd H a (exo a A none)) (upd (upd (upd (upd H t (.tup [.str msg])) d (exd d [(f, y)])) a (exq a A (some d) t)) a (exo a A (some d))) hp2 h' := {
    keep := fun b o z n hf hx => un.keep b o z (by rw [← up (ua n)]; exact n) hf hx
    slot := fun b o z n hf hx => un.slot b o z (by rw [← up (ua n)]; exact n) hf hx
    free := fun b o z n hx => by
      rw [upd_ne (ua n)]
      exact un.free b o z (by rw [← up (ua n)]; exact n) hx
    there := un.there
    tups := fun b xs z => by
      have nb : b ≠ a := at_ne upd_same z exo_tup
      rw [upd_ne nb]
      exact un.tups b xs (by rw [← up nb]; exact z)
    frzs := fun b o v z => by
      have nb : b ≠ a := at_ne upd_same z exo_frz
      rw [upd_ne nb]
      exact un.frzs b o v (by rw [← up nb]; exact z)
    tbls := fun b ps z => by
      have nb : b ≠ a := at_ne upd_same z exo_tbl
      rw [upd_ne nb]
      exact un.tbls b ps (by rw [← up nb]; exact z) }
  have hok' := hok.write (x := a) (e := a) (o' := exo a A (some d)) (h' := h') (by rw [ea]; exact True.intro) (.inl rfl) (fun b o _ z => z) ⟨_, ho2⟩ (exo_ok ho2)
  refine mk_end (H1 := H) (fs := [(f, y)]) (raises_own T.T.exC T.T.tyC) I hsz kk un' hok' ho hb upd_same (by rw [upd_ne n5, upd_ne n5, upd_same]) n3 ?_
  have e : upd (L2.del (upd (upd (upd (upd H t (.tup [.str msg])) d (exd d [(f, y)])) a (exq a A (some d) t)) a (exo a A (some d))) a) d (.xd [(f, y)]) = upd (upd H t (.tup [.str msg])) d (.xd [(f, y)]) := by
    funext b
    by_cases q1 : b = d
    · rw [q1, upd_same, upd_same]
    · rw [upd_ne q1, upd_ne q1]
      by_cases q2 : b = a
      · rw [q2, L2.del_same, upd_ne (Ne.symm n4), n1]
      · rw [L2.del_ne q2, upd_ne q2, upd_ne q2, upd_ne q1]
  rw [e]
  exact h t d n2 n3 n6
end
end DL
end
section
set_option Elab.async false
set_option linter.all false
set_option maxRecDepth 100000
set_option maxHeartbeats 4000000
set_option autoImplicit false
namespace DL
open PySem PySem.Spec PyProof.Rows L2 PySem.DLE
section
variable {X : Cx} {p pos kp : Pos} {e : Expr} {te : TE} {ta : TA} {A fI : Addr} {x f msg : Str} {fd : FuncData} {B new init : String} {tl : List Value} {dv : Bool}
theorem no_pass : Passes (L2.CX X.prog X.w) X (fun _ _ _ => False) := fun pins σ H s e s' I h => by
  obtain ⟨_, _, _, _, _, _, _, _, _, _, _, _, z⟩ := h
  exact z.elim
/-- what stands there when an error is made -/
def mkQ (A : Addr) (f msg : Str) (H : Hp) (Q : VK) (y : V) : Prop := ∀ a t d, H a = none → H t = none → H d = none → t ≠ a → d ≠ a → t ≠ d → Q (.ref a) (upd (upd (upd H t (.tup [.str msg])) d (.xd [(f, y)])) a (exq a A (some d) t))
theorem pe_errP (T : ErG X.K X.mg B tl new init x f A fI) (F1 : FnOk X.prog X.w X.K X.mg X.base (L2.CX X.prog X.w) 1 fI fd ["self", f] (spE A f msg)) (hr : Room 2 X.A) (hb : EBn X.K fd f dv) (hg : Gl X x) (he : PE X e te) (hdb : (x == ("__debug__" : Str)) = false) (hst : starEach [e] X.env = [(false, eval e X.env)]) :
    PE X (.Call (.Name x p) [e] [] pos) (fun σ H Q => te σ H fun y H1 => ∃ y', [y] = [y'] ∧ mkQ A f msg H1 Q y') := by
  refine ⟨fun pins s σ H Q I h => ?_⟩
  have ha : PA X [e] (tCons te tNil) := pa_cons he pa_nil hst
  refine wpAny_Call_Name_kw (ld_glob I hg T.gA ?_ hdb)
  refine PySem.W.callWith_K (h₀ := X.base) I.ok.mod.kin T.T.kC (thn (ha.run pos pins s σ H (fun vs H1 => ∃ y, vs = [y] ∧ mkQ A f msg H1 Q y) (I.tok _) h) fun us s1 ⟨vs, H1, I1, r1, y, ev, q1⟩ => ⟨I1.kIn, ?_⟩) hst (by rfl)
  subst ev
  cases r1 with
  | @cons _ u _ _ ry rr =>
    cases rr
    exact run_errV (kw := []) T F1 hr no_pass I1 ry (by show 1 ≤ _; rw [sizeLine_eq]; decide) (fun s a k => hb.pos s a u k) q1
theorem pe_err0 (T : ErG X.K X.mg B tl new init x f A fI) (F1 : FnOk X.prog X.w X.K X.mg X.base (L2.CX X.prog X.w) 1 fI fd ["self", f] (spE A f msg)) (hr : Room 2 X.A) (hb : EBn X.K fd f true) (hg : Gl X x) (hdb : (x == ("__debug__" : Str)) = false) :
    PE X (.Call (.Name x p) [] [] pos) (fun σ H Q => mkQ A f msg H Q .non) := by
  refine ⟨fun pins s σ H Q I h => ?_⟩
  refine wpAny_Call_Name_kw (ld_glob I hg T.gA ?_ hdb)
  exact PySem.W.callWith_K0 I.kIn T.T.kC (run_errV (us := []) (kw := []) (y := .non) (u := .none) T F1 hr no_pass (I.tok _) rfl (Nat.zero_le _) (fun s a k => hb.no rfl s a k) h)
theorem pe_errK (T : ErG X.K X.mg B tl new init x f A fI) (F1 : FnOk X.prog X.w X.K X.mg X.base (L2.CX X.prog X.w) 1 fI fd ["self", f] (spE A f msg)) (hr : Room 2 X.A) (hb : EBn X.K fd f dv) (hg : Gl X x) (he : PE X e te) (hdb : (x == ("__debug__" : Str)) = false) :
    PE X (.Call (.Name x p) [] [⟨some f, e, kp⟩] pos) (fun σ H Q => te σ H fun y H1 => ∃ y', [y] = [y'] ∧ mkQ A f msg H1 Q y') := by
  refine ⟨fun pins s σ H Q I h => ?_⟩
  have hk : PK X [⟨some f, e, kp⟩] (tCons te tNil) := pk_cons he pk_nil
  refine wpAny_Call_Name_kw (ld_glob I hg T.gA ?_ hdb)
  refine PySem.W.callWith_KW0 (h₀ := X.base) I.ok.mod.kin T.T.kC (by rfl) ?_ (by rfl)
  refine thn (hk.run pos pins _ σ H (fun vs H1 => ∃ y, vs = [y] ∧ mkQ A f msg H1 Q y) (I.tok _) h) fun us s1 ⟨vs, H1, I1, r1, y, ev, q1⟩ => ⟨I1.kIn, ?_⟩
  subst ev
  cases r1 with
  | @cons _ u _ _ ry rr =>
    cases rr
    exact run_errV (us := []) (kw := [(f, u)]) T F1 hr no_pass I1 ry (Nat.zero_le _) (fun s a k => hb.kw s a u k) q1
/-- raise x(e) -/
def mkX (A : Addr) (f msg : Str) (H : Hp) (Q : XK) (y : V) : Prop := ∀ t d, H t = none → H d = none → t ≠ d → Q (.ref A) (some d) (upd (upd H t (.tup [.str msg])) d (.xd [(f, y)]))
theorem pmk_err (T : ErG X.K X.mg B tl new init x f A fI) (F1 : FnOk X.prog X.w X.K X.mg X.base (L2.CX X.prog X.w) 1 fI fd ["self", f] (spE A f msg)) (hr : Room 2 X.A) (hb : EBn X.K fd f dv) (hg : Gl X x) (he : PE X e te) (hdb : (x == ("__debug__" : Str)) = false) (hst : starEach [e] X.env = [(false, eval e X.env)]) :
    PMk X (.Call (.Name x p) [e] [] pos) (fun σ H Q => te σ H fun y H1 => ∃ y', [y] = [y'] ∧ mkX A f msg H1 Q y') := by
  intro pins s σ H Q I h
  have ha : PA X [e] (tCons te tNil) := pa_cons he pa_nil hst
  refine wpAny_Call_Name_kw (ld_glob I hg T.gA ?_ hdb)
  refine PySem.W.callWith_K (h₀ := X.base) I.ok.mod.kin T.T.kC (thn (ha.run pos pins _ σ H (fun vs H1 => ∃ y, vs = [y] ∧ mkX A f msg H1 Q y) (I.tok _) h) fun us s1 ⟨vs, H1, I1, r1, y, ev, q1⟩ => ⟨I1.kIn, ?_⟩) hst (by rfl)
  subst ev
  cases r1 with
  | @cons _ u _ _ ry rr =>
    cases rr
    exact run_errR (kw := []) T F1 hr no_pass I1 ry (by show 1 ≤ _; rw [sizeLine_eq]; decide) (fun s a k => hb.pos s a u k) q1
end
variable [TN]
/-! ## .. over data -/
section
variable {g : G} {Γ : List Sl} {e : Expr} {p pos kp p2 : Pos} {A fI : Addr} {x f msg : Str} {fd : FuncData} {B new init : String} {tl : List Value} {dv : Bool} {r : R D}
theorem mk_post {F H : Hp} {σ : L2.St} {Q : VK} {v : D} {y : V} (e : Ex F H) (hC : g.C.c x = some (A, f)) (hm : ∀ z, g.C.m x = some z → z = msg) (ry : Rp g.X.K g.C F y v) (q : Post g (rD g.X.K g.C) F H σ Q (.ok (.exc x v))) : mkQ A f msg H Q y := fun a t d h1 h2 h3 n1 n2 n3 => by
  have g1 : Gr F H (upd F t (.tup [.str msg])) (upd H t (.tup [.str msg])) := Gr.alloc e h2
  have g2 : Gr _ _ (upd (upd F t (.tup [.str msg])) d (.xd [(f, y)])) (upd (upd H t (.tup [.str msg])) d (.xd [(f, y)])) := Gr.alloc g1.fh (by rw [upd_ne n3.symm]; exact h3)
  have g3 : Gr _ _ (upd (upd (upd F t (.tup [.str msg])) d (.xd [(f, y)])) a (exq a A (some d) t)) (upd (upd (upd H t (.tup [.str msg])) d (.xd [(f, y)])) a (exq a A (some d) t)) := Gr.alloc g2.fh (by rw [upd_ne n2.symm, upd_ne n1.symm]; exact h1)
  have gg := (g1.trans g2).trans g3
  refine q (.ref a) _ _ gg (.exc hC ⟨_, upd_same, .inr ⟨t, rfl⟩, fun z hz => ⟨t, rfl, ?_⟩⟩ (by rw [upd_ne n2, upd_same]) (Rp.mono gg.f ry))
  rw [hm z hz]
  exact SqT.of (by rw [upd_ne n1, upd_ne n3, upd_same])
theorem ce_errP (he : CE g e Γ r) (T : ErG g.X.K g.X.mg B tl new init x f A fI) (hC : g.C.c x = some (A, f)) (hm : ∀ z, g.C.m x = some z → z = msg) (F1 : FnOk g.X.prog g.X.w g.X.K g.X.mg g.X.base (L2.CX g.X.prog g.X.w) 1 fI fd ["self", f] (spE A f msg)) (hr : Room 2 g.X.A) (hb : EBn g.X.K fd f dv)
    (hg : Gl g.X x := by rfl) (hdb : (x == ("__debug__" : Str)) = false := by decide) (hst : starEach [e] g.X.env = [(false, eval e g.X.env)] := by rfl) : CE g (.Call (.Name x p) [e] [] pos) Γ (r >>= fun v => .ok (.exc x v)) := .mk fun F H σ Q E q => by
  refine wE_of (pe_errP T F1 hr hb hg (pe_w _ e) hdb hst) (he F H σ _ E (q.seq fun v u F1 H1 g1 r1 p1 => ⟨u, rfl, mk_post g1.fh hC hm r1 p1⟩))
theorem ce_errK (he : CE g e Γ r) (T : ErG g.X.K g.X.mg B tl new init x f A fI) (hC : g.C.c x = some (A, f)) (hm : ∀ z, g.C.m x = some z → z = msg) (F1 : FnOk g.X.prog g.X.w g.X.K g.X.mg g.X.base (L2.CX g.X.prog g.X.w) 1 fI fd ["self", f] (spE A f msg)) (hr : Room 2 g.X.A) (hb : EBn g.X.K fd f dv)
    (hg : Gl g.X x := by rfl) (hdb : (x == ("__debug__" : Str)) = false := by decide) : CE g (.Call (.Name x p) [] [⟨some f, e, kp⟩] pos) Γ (r >>= fun v => .ok (.exc x v)) := .mk fun F H σ Q E q => by
  refine wE_of (pe_errK T F1 hr hb hg (pe_w _ e) hdb) (he F H σ _ E (q.seq fun v u F1 H1 g1 r1 p1 => ⟨u, rfl, mk_post g1.fh hC hm r1 p1⟩))
theorem ce_err0 (T : ErG g.X.K g.X.mg B tl new init x f A fI) (hC : g.C.c x = some (A, f)) (hm : ∀ z, g.C.m x = some z → z = msg) (F1 : FnOk g.X.prog g.X.w g.X.K g.X.mg g.X.base (L2.CX g.X.prog g.X.w) 1 fI fd ["self", f] (spE A f msg)) (hr : Room 2 g.X.A) (hb : EBn g.X.K fd f true)
    (hg : Gl g.X x := by rfl) (hdb : (x == ("__debug__" : Str)) = false := by decide) : CE g (.Call (.Name x p) [] [] pos) Γ (.ok (.exc x .non)) := .mk fun F H σ Q E q => by
  exact wE_of (pe_err0 T F1 hr hb hg hdb) (mk_post E.ef hC hm .non q)
theorem cb_raiseG {T0 S : Type} {ζ : Ret T0} {γ : S → List Sl} {sts : List Stmt} (he : CE g e Γ r) (T : ErG g.X.K g.X.mg B tl new init x f A fI) (hC : g.C.c x = some (A, f)) (hm : g.C.m x = none) (F1 : FnOk g.X.prog g.X.w g.X.K g.X.mg g.X.base (L2.CX g.X.prog g.X.w) 1 fI fd ["self", f] (spE A f msg)) (hr : Room 2 g.X.A) (hb : EBn g.X.K fd f dv)
    (hc : g.X.calm = true) (hg : Gl g.X x := by rfl) (hdb : (x == ("__debug__" : Str)) = false := by decide) (hst : starEach [e] g.X.env = [(false, eval e g.X.env)] := by rfl) : CB g ζ γ (.Raise (some (.Call (.Name x p) [e] [] pos)) none p2 :: sts) Γ (r >>= fun v => .ex x v) := .mk fun F H σ Dn E q => by
  refine wB_of (pss_cons (ps_raise hc g.tk (pmk_err T F1 hr hb hg (pe_w _ e) hdb hst)) (pss_w _ sts)) ?_
  refine he F H σ _ E (q.expr E fun v u F1 H1 g1 r1 E1 q1 => ⟨u, rfl, fun t d h1 h2 n => ?_⟩)
  have g2 : Gr F1 H1 (upd F1 t (.tup [.str msg])) (upd H1 t (.tup [.str msg])) := Gr.alloc g1.fh h1
  have g3 : Gr _ _ (upd (upd F1 t (.tup [.str msg])) d (.xd [(f, u)])) (upd (upd H1 t (.tup [.str msg])) d (.xd [(f, u)])) := Gr.alloc g2.fh (by rw [upd_ne n.symm]; exact h2)
  have gr := g2.trans g3
  exact q1 (.ref A) d σ _ _ (E1.toBas.grow gr) ⟨A, f, u, hm, hC, rfl, upd_same, Rp.mono gr.f r1⟩
end
end DL
end
section
set_option Elab.async false
set_option linter.all false
set_option maxRecDepth 100000
set_option maxHeartbeats 4000000
set_option autoImplicit false
namespace DL
open PySem PySem.Spec PyProof.Rows L2 PySem.DLE
/-! ## str of an error, of a text -/
/-- what the written part says of an error's class for its str -/
structure StC (K : PySem.W.Frag) (A : Addr) : Prop where
  s : PySem.W.findIn K (.ref A) "__str__" = some (some (.builtin "BaseException.__str__"))
  b : PySem.W.subIn K (.ref A) (.type "BaseException") = some true
theorem tup_at {P : Program} {w : World} {K : PySem.W.Frag} {H : Hp} {h : Heap} {a : Addr} {xs : List V} (hok : HOk P w H h) (KX : K.In h) (q : SqT K H a xs) : ∃ its : List Value, Vals xs its ∧ h.TupAt a its := by
  rcases q with q | ⟨o, its, n, e, hc, hd, _, hv⟩
  · obtain ⟨_, its, hv, o, e, hc, n, hd⟩ := (show ObjOk P w H h a (.tup xs) from q.ok hok)
    exact ⟨its, hv, o, n, e, hc, hd⟩
  · exact ⟨its.toList, hv, o, n, KX _ _ e, hc, by simp [hd]⟩
section
variable {X : Cx}
theorem call_strE (hu : X.A.units + 2 < cLine) : CallR X (.type "str") (fun xs H Q => ∃ a A d t m, xs = [.ref a] ∧ H a = some (exq a A (some d) t) ∧ SqT X.K H t [.str m] ∧ StC X.K A ∧ Q (.str m) H) := by
  intro pins s σ H xs us Q I r h
  obtain ⟨a, A, d, t, m, rfl, h1, h2, T, q⟩ := h
  cases r with
  | cons rx rr =>
    cases rr
    cases rx
    have ho := exq_at I.hok h1
    obtain ⟨its, hv, ht⟩ := tup_at I.hok I.kIn h2
    cases hv with
    | cons hm hr =>
      cases hr
      obtain ⟨tk, rfl⟩ := hm
      exact PySem.P.str_of_C_one hu ⟨I.kIn, _, _, ho, rfl, rfl, rfl⟩ ht T.s T.b ⟨.str m, H, I, ⟨_, rfl⟩, q⟩
theorem call_strS : CallR X (.type "str") (fun xs H Q => ∃ m, xs = [.str m] ∧ Q (.str m) H) := by
  intro pins s σ H xs us Q I r h
  obtain ⟨m, rfl, q⟩ := h
  obtain ⟨u, rfl, t, rfl⟩ := vals1 r
  exact PySem.P.str_of_str ⟨.str m, H, I, ⟨_, rfl⟩, q⟩
def strX (m : Str → Option Str) : D → Option D
  | .int i => strI (.int i)
  | .str x => some (.str x)
  | .exc c _ => (m c).map D.str
  | _ => none
theorem cd_strX [TN] {C : Ctab} (hu : X.A.units + 64 < cLine) (hs : ∀ c A f, C.c c = some (A, f) → StC X.K A) : CallD X (.type "str") (rD X.K C) (rD X.K C) (strX C.m) := by
  refine ⟨fun xs H Q => (∃ i, xs = [.int i] ∧ i.natAbs.log2 < 1920 ∧ Q (.str (toString i)) H) ∨ (∃ m, xs = [.str m] ∧ Q (.str m) H) ∨ ∃ a A d t m, xs = [.ref a] ∧ H a = some (exq a A (some d) t) ∧ SqT X.K H t [.str m] ∧ StC X.K A ∧ Q (.str m) H, fun pins s σ H xs us Q I r h => ?_, fun F H H0 x dx Q e r1 p => ?_⟩
  · rcases h with h | h | h
    · exact call_str_int pins s σ H xs us Q I r h
    · exact call_strS pins s σ H xs us Q I r h
    · exact call_strE (by omega) pins s σ H xs us Q I r h
  · cases dx <;> try (exact (show False from p).elim)
    · rename_i i
      left
      unfold strX strI at p
      dsimp only at p
      split at p
      · rename_i hl
        exact ⟨i, by rw [int_of r1], hl, fin_here p e (.str _)⟩
      · exact p.elim
    · rename_i x
      right
      left
      cases r1 with
      | str _ => exact ⟨x, rfl, fin_here p e (.str _)⟩
    · rename_i c x
      right
      right
      unfold strX at p
      dsimp only at p
      cases q : C.m c with
      | none =>
        rw [q] at p
        exact (show False from p).elim
      | some m =>
        rw [q] at p
        cases r1 with
        | @exc a A dx f' _ v' _ h1 h2 h3 h4 =>
          obtain ⟨u, e1, e2, e3⟩ := h2
          obtain ⟨t, e4, e5⟩ := e3 m q
          subst e4
          exact ⟨a, A, dx, t, m, rfl, e.k _ _ e1 e2.nt, ex_t e e5, hs c A f' h1, fin_here p e (.str _)⟩
/-! ## powers of great numbers -/
def CPowB (i j : Int) : Prop := 0 ≤ j ∧ (Builtin.Int.intBits i : Int) * j ≤ 2 ^ 27
theorem op_powB : OpR X (binaryOp .Pow) (rI CPowB fun i j => .int (i ^ j.toNat)) := opI fun _ _ _ _ _ _ _ hc q => pow_int hc.1 hc.2 q
def D.powB : D → D → Option D
  | .int i, .int j => if 0 ≤ j ∧ (Builtin.Int.intBits i : Int) * j ≤ 2 ^ 27 then some (.int (i ^ j.toNat)) else none
  | _, _ => none
theorem od_powB [TN] {C : Ctab} : OpD X (binaryOp .Pow) (rD X.K C) (rD X.K C) (rD X.K C) D.powB := opd_int rD_rp rD_rp op_powB (fun x y z e => by
  cases x <;> cases y <;> try (cases e; done)
  rename_i i j
  unfold D.powB at e
  dsimp only at e
  split at e
  · rename_i hc
    cases e
    exact ⟨i, j, rfl, rfl, hc, fun F => .int _⟩
  · cases e)
end
/-! ## a comprehension with three names -/
theorem wipe_set3 [TN] {σ : L2.St} {vs : List Nat} {i j l : Nat} {o u v : Option V} (hi : i ∈ vs) (hj : j ∈ vs) (hl : l ∈ vs) : wipe ((((wipe σ vs).set i o).set j u).set l v) vs = wipe σ vs := by
  refine wipe_same (by rw [List.length_set, List.length_set, List.length_set, wipe_length]) fun k hk => ?_
  rw [List.getElem?_set_ne (fun z => hk (by rw [← z]; exact hl)), List.getElem?_set_ne (fun z => hk (by rw [← z]; exact hj)), List.getElem?_set_ne (fun z => hk (by rw [← z]; exact hi)), wipe_at, if_neg hk]
section
variable [TN] {g : G} {Γ : List Sl} {elt iter : Expr} {ifs : List Expr} {scope : Scope} {pos p1 p2 p3 tp : Pos}
theorem cn_comp3 (i j l : Nat) {n m o : Str} {kk : Nat} {rx : R (List D)} {t : D → D → D → R Bool} {e : D → D → D → R D} (hi : CI g (.Tuple [.Name n p1, .Name m p2, .Name o p3] kk tp) iter Γ rx) (nd : g.X.N.Nodup) (hc : g.X.calm = true) (hb : blkC g.X.N g.X.env.scope scope [(n, i), (m, j), (o, l)] = true)
    (ht : ∀ x y z s H0 C cl fp, CTs (g.blk s H0 scope (compEnvC scope cl C g.X.env) fp) ifs ((((((Γ.set l .no).set j .no).set i .no).set i (.d x)).set j (.d y)).set l (.d z)) (t x y z))
    (he : ∀ x y z s H0 C cl fp, CE (g.blk s H0 scope (compEnvC scope cl C g.X.env) fp) elt ((((((Γ.set l .no).set j .no).set i .no).set i (.d x)).set j (.d y)).set l (.d z)) (e x y z))
    (hg : ∀ (s : Shared) (H : Hp) (C : Addr) (cl : List (Str × Addr)) (fp : List Addr), PG (g.X.blk s H scope (compEnvC scope cl C g.X.env) fp) (.Tuple [.Name n p1, .Name m p2, .Name o p3] kk tp) (gTup g.X.K 3 (gCons (gName i) (gCons (gName j) (gCons (gName l) gNil)))))
    (hs : ∀ x, foldedSetIterable iter g.X.env x = pure x := by intro _; rfl) :
    CN g (.ListComp elt [⟨.Tuple [.Name n p1, .Name m p2, .Name o p3] kk tp, iter, ifs, 0⟩] scope pos) Γ (rx >>= fun xs => .of (compL (D.three t) (D.three e) xs)) := .mk fun F H σ Q E p => by
  refine wE_of (pe_lc (te := bE g scope elt) (tt := bT g scope ifs) hc nd (pi_w _ _ _) (blkOk_by hb) hg (fun s H C cl fp => ⟨fun pins s' σ H' Q I h => h s H C cl fp pins s' I⟩) (fun s H C cl fp => ⟨fun pins s' σ H' Q I h => h s H C cl fp pins s' I⟩) hs) ?_
  refine lc_dl (GT := gTup g.X.K 3 (gCons (gName i) (gCons (gName j) (gCons (gName l) gNil)))) (own := [(n, i), (m, j), (o, l)]) (ΓT := fun z => match z with | .tup [x, y, z] => (((((Γ.set l .no).set j .no).set i .no).set i (.d x)).set j (.d y)).set l (.d z) | _ => Γ) hi E (fun z => ?_) (fun z s H0 C cl fp => ?_) (fun z s H0 C cl fp => ?_) p
  · by_cases h : ∃ a b c, z = .tup [a, b, c]
    · obtain ⟨a, b, c, rfl⟩ := h
      refine .inr fun F2 H2 σ2 v Q2 E2 r k => ?_
      cases r with
      | tup h1 a1 =>
        cases a1 with
        | cons r1 t1 =>
          cases t1 with
          | cons r2 t2 =>
            cases t2 with
            | cons r3 t3 =>
              cases t3
              exact ⟨_, _, rfl, ex_t E2.ef h1, rfl, _, _, rfl, _, _, rfl, _, _, rfl, rfl, k _ (((EnvOk.set_d E2 i r1).set_d j r2).set_d l r3) (wipe_set3 (by simp) (by simp) (by simp))⟩
    · left
      unfold D.three
      split
      · exact (h ⟨_, _, _, rfl⟩).elim
      · rfl
  · by_cases h : ∃ a b c, z = .tup [a, b, c]
    · obtain ⟨a, b, c, rfl⟩ := h
      exact ht a b c s H0 C cl fp
    · have q : D.three t z = .un := by
        unfold D.three
        split
        · exact (h ⟨_, _, _, rfl⟩).elim
        · rfl
      rw [q]
      exact .mk fun F H σ Q E p => (show False from p).elim
  · by_cases h : ∃ a b c, z = .tup [a, b, c]
    · obtain ⟨a, b, c, rfl⟩ := h
      exact he a b c s H0 C cl fp
    · have q : D.three e z = .un := by
        unfold D.three
        split
        · exact (h ⟨_, _, _, rfl⟩).elim
        · rfl
      rw [q]
      exact .mk fun F H σ Q E p => (show False from p).elim
end
/-! ## facts, as Bools of the frozen part -/
def oexGB (K : PySem.W.Frag) (new : String) (tl : List Value) (C : Addr) : Bool := (match K.lookup C with
  | some ⟨.type "type", _, .cls cd, sl⟩ => (match cd.mro, sl.toList with
    | .ref C' :: bm, [_, _, _, _, some (.builtin n), _] => C' == C && n == new && !cd.hasDel && cd.hasDict && refsT tl bm
    | _, _ => false)
  | _ => false) && (decide (PySem.W.findIn K (.ref C) "__setattr__" = some (some (.builtin "object.__setattr__"))) && (decide (PySem.W.subIn K (.ref C) (.type "BaseException") = some true) && (decide (PySem.W.typeIn K (.ref C) = some (.type "type")) && PySem.W.keepIn K (.ref C))))
theorem oexGB_ok {K : PySem.W.Frag} {B new init : String} {tl : List Value} {C : Addr} (b : EBs B tl new init) (h : oexGB K new tl C = true) : OexG K B tl new init C := by
  unfold oexGB at h
  obtain ⟨q, h⟩ := Bool.and_eq_true_iff.mp h
  obtain ⟨h2, h⟩ := Bool.and_eq_true_iff.mp h
  obtain ⟨h3, h⟩ := Bool.and_eq_true_iff.mp h
  obtain ⟨h4, h5⟩ := Bool.and_eq_true_iff.mp h
  refine ⟨b, ?_, of_decide_eq_true h2, of_decide_eq_true h3, of_decide_eq_true h4, h5⟩
  split at q
  · rename_i dd cd sl ho
    split at q
    · rename_i C' bm k0 k1 k2 k3 n k5 hm hs
      simp only [Bool.and_eq_true, beq_iff_eq, Bool.not_eq_true'] at q
      obtain ⟨⟨⟨⟨rfl, rfl⟩, hdel⟩, hdct⟩, ht⟩ := q
      obtain ⟨nm, bs, mro, ns, qn, hd, sn, sub, ab, col, del⟩ := cd
      dsimp only at hm hdel hdct
      subst hm hdel hdct
      have hsl : sl = #[k0, k1, k2, k3, some (.builtin n), k5] := by
        obtain ⟨l⟩ := sl
        simp only at hs
        rw [hs]
      subst hsl
      exact ⟨nm, qn, ns, bs, bm, sn, sub, ab, col, dd, k0, k1, k2, k3, k5, ho, ht⟩
    · cases q
  · cases q
/-- A an own error class over a built-in base or own ones, which keeps f; I its __init__ -/
def erGB (K : PySem.W.Frag) (new : String) (tl : List Value) (A I : Addr) (f : Str) : Bool :=
  oexGB K new tl A && (xfB K A && (excB K A && (decide (PySem.W.findIn K (.ref A) f = some none) && (decide (PySem.W.findIn K (.ref A) "__init__" = some (some (.ref I))) && (decide (PySem.W.typeIn K (.ref I) = some (.type "function")) && decide (PySem.W.findIn K (.ref A) "__str__" = some (some (.builtin "BaseException.__str__"))))))))
theorem erGB_ok {K : PySem.W.Frag} {mg : Str → Option Value} {A I : Addr} {x f : Str} {B new init : String} {tl : List Value} (b : EBs B tl new init) (h : erGB K new tl A I f = true) (gA : mg x = some (.ref A)) : ErG K mg B tl new init x f A I ∧ ErC K A f ∧ StC K A := by
  unfold erGB at h
  simp only [Bool.and_eq_true, decide_eq_true_eq] at h
  obtain ⟨h1, h2, h3, h4, h5, h6, h7⟩ := h
  have T := oexGB_ok b h1
  exact ⟨⟨gA, T, xfB_ok h2, h4, h5, h6⟩, ⟨xfB_ok h2, h4, excB_ok h3⟩, ⟨h7, T.exC⟩⟩
/-- the base of such a class, an own class -/
def ebO (K : PySem.W.Frag) (init : String) (B : Addr) : Bool := decide (PySem.W.specialIn K (.ref B) "__getattribute__" = some (some (.builtin "type.__getattribute__"))) && (PySem.W.readsIn K B (.type "type") &&
  (match PySem.W.findCls K (.ref B) (.type "type") "__init__" with
    | some (.val (.builtin n)) => decide (n = init)
    | _ => false))
structure EbO (K : PySem.W.Frag) (init : String) (B : Addr) : Prop where
  ga : PySem.W.specialIn K (.ref B) "__getattribute__" = some (some (.builtin "type.__getattribute__"))
  hr : PySem.W.readsIn K B (.type "type") = true
  vV : PySem.W.findCls K (.ref B) (.type "type") "__init__" = some (.val (.builtin init))
theorem ebO_ok {K : PySem.W.Frag} {init : String} {B : Addr} (h : ebO K init B = true) : EbO K init B := by
  unfold ebO at h
  simp only [Bool.and_eq_true, decide_eq_true_eq] at h
  obtain ⟨h1, h2, h3⟩ := h
  refine ⟨h1, h2, ?_⟩
  split at h3
  · rename_i n e
    rw [e, of_decide_eq_true h3]
  · cases h3
/-- .. a built-in class -/
def ebB (K : PySem.W.Frag) (B init : String) : Bool := match PySem.W.findCls K (.type B) (.type "type") "__init__" with
    | some (.val (.builtin n)) => decide (n = init)
    | _ => false
theorem ebB_ok {K : PySem.W.Frag} {B init : String} (h : ebB K B init = true) : PySem.W.findCls K (.type B) (.type "type") "__init__" = some (.val (.builtin init)) := by
  unfold ebB at h
  split at h
  · rename_i n e
    rw [e, of_decide_eq_true h]
  · cases h
end DL
end
section
set_option Elab.async false
set_option linter.all false
set_option maxRecDepth 100000
set_option maxHeartbeats 4000000
set_option autoImplicit false
namespace DL
open PySem PySem.Spec PyProof.Rows L2 PySem.DLE
section
variable {K : PySem.W.Frag} {mg : Str → Option Value} {B new init : String} {tl : List Value} {b f msg : Str} {A : Addr} {j : Nat} {p1 p2 p3 p4 p5 : Pos} {pl : PySem.Env → Sem Bool}
/-- the call of an own base's __init__ -/
theorem hcO (gA : mg b = some (.ref A)) (E : EbO K init A) (b0 : EBs B tl new init) (hb : (initS b f).names.lookup b = some .globalImplicit) (hdb : (b == ("__debug__" : Str)) = false)
    (hc : ∀ env : PySem.Env, eval (.Call (.Attribute (.Name b p1) "__init__" p2) [.Name "self" p3, .Constant (.str msg) j p4] [] p5) env = (do
      let ov ← eval (.Name b p1) env
      standAt p2.atName
      let (f, first) ← holding [ov] (getMethod ov "__init__" (pl env))
      callWith p5 f first (backTo p5 (starEach [.Name "self" p3, .Constant (.str msg) j p4] env)) (backToKw p5 (keywordEach [] env))))
    (he : ∀ env : PySem.Env, starEach [.Name "self" p3, .Constant (.str msg) j p4] env = (false, eval (.Name "self" p3) env) :: starEach [.Constant (.str msg) j p4] env) (hpl : ∀ env : PySem.Env, (backTo p5 (starEach [.Constant (.str msg) j p4] env)).any (·.1) = false) :
    ∀ (X : Cx) (ta : TA), X.K = K → X.mg = mg → X.env.scope = initS b f → PA X [.Name "self" p3, .Constant (.str msg) j p4] ta → PE X (.Call (.Attribute (.Name b p1) "__init__" p2) [.Name "self" p3, .Constant (.str msg) j p4] [] p5) (tIni X.K B tl new init ta) := fun X ta hK hm hs ha => by
  subst hK hm
  exact pe_iniO (pl := pl X.env) (show X.env.scope.names.lookup b = _ by rw [hs]; exact hb) gA E.ga E.hr E.vV b0 ha (hc _) hdb (he _) (hpl _)
/-- .. of a built-in one -/
theorem hcB (hB : mg (Str.ofString B) = none) (vV : PySem.W.findCls K (.type B) (.type "type") "__init__" = some (.val (.builtin init))) (b0 : EBs B tl new init) (hb : (initS (Str.ofString B) f).names.lookup (Str.ofString B) = some .globalImplicit) (hdb : ((Str.ofString B) == ("__debug__" : Str)) = false) (hn : Str.ofString B ≠ "__name__")
    (hc : ∀ env : PySem.Env, eval (.Call (.Attribute (.Name (Str.ofString B) p1) "__init__" p2) [.Name "self" p3, .Constant (.str msg) j p4] [] p5) env = (do
      let ov ← eval (.Name (Str.ofString B) p1) env
      standAt p2.atName
      let (f, first) ← holding [ov] (getMethod ov "__init__" (pl env))
      callWith p5 f first (backTo p5 (starEach [.Name "self" p3, .Constant (.str msg) j p4] env)) (backToKw p5 (keywordEach [] env))))
    (he : ∀ env : PySem.Env, starEach [.Name "self" p3, .Constant (.str msg) j p4] env = (false, eval (.Name "self" p3) env) :: starEach [.Constant (.str msg) j p4] env) (hpl : ∀ env : PySem.Env, (backTo p5 (starEach [.Constant (.str msg) j p4] env)).any (·.1) = false) :
    ∀ (X : Cx) (ta : TA), X.K = K → X.mg = mg → X.env.scope = initS (Str.ofString B) f → PA X [.Name "self" p3, .Constant (.str msg) j p4] ta → PE X (.Call (.Attribute (.Name (Str.ofString B) p1) "__init__" p2) [.Name "self" p3, .Constant (.str msg) j p4] [] p5) (tIni X.K B tl new init ta) := fun X ta hK hm hs ha => by
  subst hK hm
  exact pe_iniB (pl := pl X.env) (show X.env.scope.names.lookup _ = _ by rw [hs]; exact hb) hB vV b0 ha (hc _) hn hdb (he _) (hpl _)
end
/-! ## data times a whole number, texts too -/
theorem mul_ok {x : Str} {k : Int} (h1 : x.length ≤ 1000) (h2 : k.natAbs ≤ 1000) : MulOk x k := by
  refine ⟨?_, fun h3 _ => ?_, fun h3 _ => ?_⟩
  · rw [decide_eq_false (show ¬ k < -(2 ^ 63 : Int) by omega), decide_eq_false (show ¬ k ≥ 2 ^ 63 by omega)] <;> rfl
  · intro z
    have hk : 1 ≤ k := by omega
    have : (1000 : Int) ≤ (2 ^ 63 - 1) / k := by
      rw [Int.le_ediv_iff_mul_le (by omega)]
      have : (1000 : Int) * k ≤ 1000 * 1000 := Int.mul_le_mul_of_nonneg_left (by omega) (by decide)
      omega
    omega
  · have : x.length * k.toNat ≤ 1000 * 1000 := Nat.mul_le_mul h1 (by omega)
    unfold Builtin.Str.tooLong
    rw [sizeLine_eq]
    exact decide_eq_false (by omega)
variable [TN]
def D.mulX : D → D → Option D
  | .str x, .int k => if x.length ≤ 1000 ∧ k.natAbs ≤ 1000 then some (.str (Txt.mul x k)) else none
  | x, y => D.mulA x y
theorem op_mulS {X : Cx} : OpR X (binaryOp .Mult) (fun x y H Q => ∃ s k, x = .str s ∧ y = .int k ∧ MulOk s k ∧ Q (.str (Txt.mul s k)) H) := by
  intro pins σ s H x y v u Q I rx ry h
  obtain ⟨s, k, rfl, rfl, hok, q⟩ := h
  obtain ⟨t, rfl⟩ := rx
  obtain ⟨t2, rfl⟩ := ry
  exact SB.mul hok fun t' k' => ⟨.str _, H, I.tok _, ⟨_, rfl⟩, q⟩
theorem od_mulX {X : Cx} {C : Ctab} : OpD X (binaryOp .Mult) (rD X.K C) (rD X.K C) (rD X.K C) D.mulX := by
  obtain ⟨rm, h1, h2⟩ := od_mulA (X := X) (C := C)
  refine ⟨_, h1.or op_mulS, fun F H H0 H1 x y dx dy Q e r1 r2 p => ?_⟩
  by_cases c : ∃ s k, dx = .str s ∧ dy = .int k
  · obtain ⟨s, k, rfl, rfl⟩ := c
    have p' : PostV (rD X.K C) F H Q (if s.length ≤ 1000 ∧ k.natAbs ≤ 1000 then some (D.str (Txt.mul s k)) else none) := p
    split at p'
    · rename_i hc
      cases r1
      cases r2
      exact .inr ⟨s, k, rfl, rfl, mul_ok hc.1 hc.2, fin_here p' e (.str _)⟩
    · exact p'.elim
  · refine .inl (h2 F H H0 H1 x y dx dy Q e r1 r2 ?_)
    unfold D.mulX at p
    split at p
    · exact (c ⟨_, _, rfl, rfl⟩).elim
    · exact p
end DL
namespace DL
open PySem
/-! ## many facts in one -/
def kitAll (K : PySem.W.Frag) (l : List (Addr × Bool)) (c : Value) : Bool := l.all fun p => kitB K p.1 c p.2
def exmAll (K : PySem.W.Frag) (l : List (Addr × Bool)) (c : Value) : Bool := l.all fun p => exmB K p.1 c p.2
theorem kitAll_at {K : PySem.W.Frag} {l : List (Addr × Bool)} {c : Value} (h : kitAll K l c = true) (i : Nat) {A : Addr} {b : Bool} (e : l[i]? = some (A, b)) : PySem.W.kitOne K (.ref A) c = some b :=
  of_decide_eq_true (List.all_eq_true.mp h (A, b) (List.mem_of_getElem? e))
theorem exmAll_at {K : PySem.W.Frag} {l : List (Addr × Bool)} {c : Value} (h : exmAll K l c = true) (i : Nat) {A : Addr} {b : Bool} (e : l[i]? = some (A, b)) : PySem.W.exmOne K (.ref A) c = some b :=
  of_decide_eq_true (List.all_eq_true.mp h (A, b) (List.mem_of_getElem? e))
theorem all_at {l : List Bool} (h : l.all (fun b => b) = true) (i : Nat) {b : Bool} (e : l[i]? = some b) : b = true := List.all_eq_true.mp h b (List.mem_of_getElem? e)
end DL
end
section
set_option Elab.async false
set_option linter.all false
set_option maxRecDepth 100000
set_option maxHeartbeats 4000000
set_option autoImplicit false
namespace K99
open PySem PySem.Spec PyProof.Rows L2 DL
def t_msg (c : Str) : Option Str := if c = "BadClaim" then some "no such claim" else if c = "BadAssumptions" then some "no such assumptions" else if c = "BadWorld" then some "no such world" else if c = "BadPoint" then some "no such point" else if c = "BadTerm" then some "no such term" else if c = "BadPaper" then some "no such paper" else if c = "BadText" then some "no such text" else if c = "BadNumber" then some "no such number" else if c = "BadLetters" then some "no such letters" else if c = "BadBook" then some "no such book" else if c = "BadForm" then some "no such form" else if c = "BadOrder" then some "no such order" else if c = "BadMove" then some "no such move" else if c = "BadDeed" then some "no such deed" else if c = "BadTheory" then some "no such theory" else if c = "TooMany" then some "too many" else if c = "NoSuch" then some "nothing so called" else none
def t_fld (f c : Str) : Bool := if c = "BadClaim" then decide (f = "place") else if c = "BadAssumptions" then decide (f = "place") else if c = "BadWorld" then decide (f = "place") else if c = "BadPoint" then decide (f = "value") else if c = "BadTerm" then decide (f = "place") else if c = "BadPaper" then decide (f = "place") else if c = "BadText" then decide (f = "place") else if c = "BadNumber" then decide (f = "value") else if c = "BadLetters" then decide (f = "value") else if c = "BadBook" then decide (f = "place") else if c = "BadForm" then decide (f = "place") else if c = "BadOrder" then decide (f = "place") else if c = "BadMove" then decide (f = "place") else if c = "BadDeed" then decide (f = "place") else if c = "BadTheory" then decide (f = "place") else if c = "TooMany" then decide (f = "most") else if c = "NoSuch" then decide (f = "value") else false
def t_isx (x c : Str) : Option Bool := if x = "ValueError" then (if c = "BadClaim" then some true else if c = "BadAssumptions" then some true else if c = "BadWorld" then some true else if c = "BadPoint" then some true else if c = "BadTerm" then some true else if c = "BadPaper" then some true else if c = "BadText" then some true else if c = "BadNumber" then some true else if c = "BadLetters" then some true else if c = "BadBook" then some true else if c = "BadForm" then some true else if c = "BadOrder" then some true else if c = "BadMove" then some true else if c = "BadDeed" then some true else if c = "BadTheory" then some true else if c = "TooMany" then some false else if c = "NoSuch" then some false else none) else if x = "TooMany" then (if c = "BadClaim" then some false else if c = "BadAssumptions" then some false else if c = "BadWorld" then some false else if c = "BadPoint" then some false else if c = "BadTerm" then some false else if c = "BadPaper" then some false else if c = "BadText" then some false else if c = "BadNumber" then some false else if c = "BadLetters" then some false else if c = "BadBook" then some false else if c = "BadForm" then some false else if c = "BadOrder" then some false else if c = "BadMove" then some false else if c = "BadDeed" then some false else if c = "BadTheory" then some false else if c = "TooMany" then some true else if c = "NoSuch" then some false else none) else if x = "ProofError" then (if c = "BadClaim" then some true else if c = "BadAssumptions" then some true else if c = "BadWorld" then some true else if c = "BadPoint" then some true else if c = "BadTerm" then some true else if c = "BadPaper" then some true else if c = "BadText" then some true else if c = "BadNumber" then some true else if c = "BadLetters" then some true else if c = "BadBook" then some true else if c = "BadForm" then some true else if c = "BadOrder" then some true else if c = "BadMove" then some true else if c = "BadDeed" then some true else if c = "BadTheory" then some true else if c = "TooMany" then some false else if c = "NoSuch" then some false else none) else if x = "OverflowError" then (if c = "BadClaim" then some false else if c = "BadAssumptions" then some false else if c = "BadWorld" then some false else if c = "BadPoint" then some false else if c = "BadTerm" then some false else if c = "BadPaper" then some false else if c = "BadText" then some false else if c = "BadNumber" then some false else if c = "BadLetters" then some false else if c = "BadBook" then some false else if c = "BadForm" then some false else if c = "BadOrder" then some false else if c = "BadMove" then some false else if c = "BadDeed" then some false else if c = "BadTheory" then some false else if c = "TooMany" then some true else if c = "NoSuch" then some false else none) else if x = "NoSuch" then (if c = "BadClaim" then some false else if c = "BadAssumptions" then some false else if c = "BadWorld" then some false else if c = "BadPoint" then some false else if c = "BadTerm" then some false else if c = "BadPaper" then some false else if c = "BadText" then some false else if c = "BadNumber" then some false else if c = "BadLetters" then some false else if c = "BadBook" then some false else if c = "BadForm" then some false else if c = "BadOrder" then some false else if c = "BadMove" then some false else if c = "BadDeed" then some false else if c = "BadTheory" then some false else if c = "TooMany" then some false else if c = "NoSuch" then some true else none) else if x = "LookupError" then (if c = "BadClaim" then some false else if c = "BadAssumptions" then some false else if c = "BadWorld" then some false else if c = "BadPoint" then some false else if c = "BadTerm" then some false else if c = "BadPaper" then some false else if c = "BadText" then some false else if c = "BadNumber" then some false else if c = "BadLetters" then some false else if c = "BadBook" then some false else if c = "BadForm" then some false else if c = "BadOrder" then some false else if c = "BadMove" then some false else if c = "BadDeed" then some false else if c = "BadTheory" then some false else if c = "TooMany" then some false else if c = "NoSuch" then some true else none) else if x = "BadWorld" then (if c = "BadClaim" then some false else if c = "BadAssumptions" then some false else if c = "BadWorld" then some true else if c = "BadPoint" then some false else if c = "BadTerm" then some false else if c = "BadPaper" then some false else if c = "BadText" then some false else if c = "BadNumber" then some false else if c = "BadLetters" then some false else if c = "BadBook" then some false else if c = "BadForm" then some false else if c = "BadOrder" then some false else if c = "BadMove" then some false else if c = "BadDeed" then some false else if c = "BadTheory" then some false else if c = "TooMany" then some false else if c = "NoSuch" then some false else none) else if x = "BadTheory" then (if c = "BadClaim" then some false else if c = "BadAssumptions" then some false else if c = "BadWorld" then some false else if c = "BadPoint" then some false else if c = "BadTerm" then some false else if c = "BadPaper" then some false else if c = "BadText" then some false else if c = "BadNumber" then some false else if c = "BadLetters" then some false else if c = "BadBook" then some false else if c = "BadForm" then some false else if c = "BadOrder" then some false else if c = "BadMove" then some false else if c = "BadDeed" then some false else if c = "BadTheory" then some true else if c = "TooMany" then some false else if c = "NoSuch" then some false else none) else if x = "BadText" then (if c = "BadClaim" then some false else if c = "BadAssumptions" then some false else if c = "BadWorld" then some false else if c = "BadPoint" then some false else if c = "BadTerm" then some false else if c = "BadPaper" then some false else if c = "BadText" then some true else if c = "BadNumber" then some false else if c = "BadLetters" then some false else if c = "BadBook" then some false else if c = "BadForm" then some false else if c = "BadOrder" then some false else if c = "BadMove" then some false else if c = "BadDeed" then some false else if c = "BadTheory" then some false else if c = "TooMany" then some false else if c = "NoSuch" then some false else none) else if x = "BadTerm" then (if c = "BadClaim" then some false else if c = "BadAssumptions" then some false else if c = "BadWorld" then some false else if c = "BadPoint" then some false else if c = "BadTerm" then some true else if c = "BadPaper" then some false else if c = "BadText" then some false else if c = "BadNumber" then some false else if c = "BadLetters" then some false else if c = "BadBook" then some false else if c = "BadForm" then some false else if c = "BadOrder" then some false else if c = "BadMove" then some false else if c = "BadDeed" then some false else if c = "BadTheory" then some false else if c = "TooMany" then some false else if c = "NoSuch" then some false else none) else if x = "BadPoint" then (if c = "BadClaim" then some false else if c = "BadAssumptions" then some false else if c = "BadWorld" then some false else if c = "BadPoint" then some true else if c = "BadTerm" then some false else if c = "BadPaper" then some false else if c = "BadText" then some false else if c = "BadNumber" then some false else if c = "BadLetters" then some false else if c = "BadBook" then some false else if c = "BadForm" then some false else if c = "BadOrder" then some false else if c = "BadMove" then some false else if c = "BadDeed" then some false else if c = "BadTheory" then some false else if c = "TooMany" then some false else if c = "NoSuch" then some false else none) else if x = "BadPaper" then (if c = "BadClaim" then some false else if c = "BadAssumptions" then some false else if c = "BadWorld" then some false else if c = "BadPoint" then some false else if c = "BadTerm" then some false else if c = "BadPaper" then some true else if c = "BadText" then some false else if c = "BadNumber" then some false else if c = "BadLetters" then some false else if c = "BadBook" then some false else if c = "BadForm" then some false else if c = "BadOrder" then some false else if c = "BadMove" then some false else if c = "BadDeed" then some false else if c = "BadTheory" then some false else if c = "TooMany" then some false else if c = "NoSuch" then some false else none) else if x = "BadOrder" then (if c = "BadClaim" then some false else if c = "BadAssumptions" then some false else if c = "BadWorld" then some false else if c = "BadPoint" then some false else if c = "BadTerm" then some false else if c = "BadPaper" then some false else if c = "BadText" then some false else if c = "BadNumber" then some false else if c = "BadLetters" then some false else if c = "BadBook" then some false else if c = "BadForm" then some false else if c = "BadOrder" then some true else if c = "BadMove" then some false else if c = "BadDeed" then some false else if c = "BadTheory" then some false else if c = "TooMany" then some false else if c = "NoSuch" then some false else none) else if x = "BadNumber" then (if c = "BadClaim" then some false else if c = "BadAssumptions" then some false else if c = "BadWorld" then some false else if c = "BadPoint" then some false else if c = "BadTerm" then some false else if c = "BadPaper" then some false else if c = "BadText" then some false else if c = "BadNumber" then some true else if c = "BadLetters" then some false else if c = "BadBook" then some false else if c = "BadForm" then some false else if c = "BadOrder" then some false else if c = "BadMove" then some false else if c = "BadDeed" then some false else if c = "BadTheory" then some false else if c = "TooMany" then some false else if c = "NoSuch" then some false else none) else if x = "BadMove" then (if c = "BadClaim" then some false else if c = "BadAssumptions" then some false else if c = "BadWorld" then some false else if c = "BadPoint" then some false else if c = "BadTerm" then some false else if c = "BadPaper" then some false else if c = "BadText" then some false else if c = "BadNumber" then some false else if c = "BadLetters" then some false else if c = "BadBook" then some false else if c = "BadForm" then some false else if c = "BadOrder" then some false else if c = "BadMove" then some true else if c = "BadDeed" then some false else if c = "BadTheory" then some false else if c = "TooMany" then some false else if c = "NoSuch" then some false else none) else if x = "BadLetters" then (if c = "BadClaim" then some false else if c = "BadAssumptions" then some false else if c = "BadWorld" then some false else if c = "BadPoint" then some false else if c = "BadTerm" then some false else if c = "BadPaper" then some false else if c = "BadText" then some false else if c = "BadNumber" then some false else if c = "BadLetters" then some true else if c = "BadBook" then some false else if c = "BadForm" then some false else if c = "BadOrder" then some false else if c = "BadMove" then some false else if c = "BadDeed" then some false else if c = "BadTheory" then some false else if c = "TooMany" then some false else if c = "NoSuch" then some false else none) else if x = "BadForm" then (if c = "BadClaim" then some false else if c = "BadAssumptions" then some false else if c = "BadWorld" then some false else if c = "BadPoint" then some false else if c = "BadTerm" then some false else if c = "BadPaper" then some false else if c = "BadText" then some false else if c = "BadNumber" then some false else if c = "BadLetters" then some false else if c = "BadBook" then some false else if c = "BadForm" then some true else if c = "BadOrder" then some false else if c = "BadMove" then some false else if c = "BadDeed" then some false else if c = "BadTheory" then some false else if c = "TooMany" then some false else if c = "NoSuch" then some false else none) else if x = "BadDeed" then (if c = "BadClaim" then some false else if c = "BadAssumptions" then some false else if c = "BadWorld" then some false else if c = "BadPoint" then some false else if c = "BadTerm" then some false else if c = "BadPaper" then some false else if c = "BadText" then some false else if c = "BadNumber" then some false else if c = "BadLetters" then some false else if c = "BadBook" then some false else if c = "BadForm" then some false else if c = "BadOrder" then some false else if c = "BadMove" then some false else if c = "BadDeed" then some true else if c = "BadTheory" then some false else if c = "TooMany" then some false else if c = "NoSuch" then some false else none) else if x = "BadClaim" then (if c = "BadClaim" then some true else if c = "BadAssumptions" then some false else if c = "BadWorld" then some false else if c = "BadPoint" then some false else if c = "BadTerm" then some false else if c = "BadPaper" then some false else if c = "BadText" then some false else if c = "BadNumber" then some false else if c = "BadLetters" then some false else if c = "BadBook" then some false else if c = "BadForm" then some false else if c = "BadOrder" then some false else if c = "BadMove" then some false else if c = "BadDeed" then some false else if c = "BadTheory" then some false else if c = "TooMany" then some false else if c = "NoSuch" then some false else none) else if x = "BadBook" then (if c = "BadClaim" then some false else if c = "BadAssumptions" then some false else if c = "BadWorld" then some false else if c = "BadPoint" then some false else if c = "BadTerm" then some false else if c = "BadPaper" then some false else if c = "BadText" then some false else if c = "BadNumber" then some false else if c = "BadLetters" then some false else if c = "BadBook" then some true else if c = "BadForm" then some false else if c = "BadOrder" then some false else if c = "BadMove" then some false else if c = "BadDeed" then some false else if c = "BadTheory" then some false else if c = "TooMany" then some false else if c = "NoSuch" then some false else none) else if x = "BadAssumptions" then (if c = "BadClaim" then some false else if c = "BadAssumptions" then some true else if c = "BadWorld" then some false else if c = "BadPoint" then some false else if c = "BadTerm" then some false else if c = "BadPaper" then some false else if c = "BadText" then some false else if c = "BadNumber" then some false else if c = "BadLetters" then some false else if c = "BadBook" then some false else if c = "BadForm" then some false else if c = "BadOrder" then some false else if c = "BadMove" then some false else if c = "BadDeed" then some false else if c = "BadTheory" then some false else if c = "TooMany" then some false else if c = "NoSuch" then some false else none) else none
def t_exm (x c : Str) : Option Bool := none
/-! _law_mixed -/
def B__law_mixed (v_cell v_k : D) : R (Fl D Unit) := (((((R.ok v_cell) >>= fun x => ((((R.ok (D.int 1000000007)) >>= fun x => ((R.ok (D.int 998244353)) >>= fun x => ((R.ok (D.int 2147483629)) >>= fun x => ((R.ok (D.int 1000000009)) >>= fun x => (R.ok []) >>= fun xs => R.ok (x :: xs)) >>= fun xs => R.ok (x :: xs)) >>= fun xs => R.ok (x :: xs)) >>= fun xs => R.ok (x :: xs)) >>= fun xs => if xs.length ≤ lim then R.ok (xs) else R.un) >>= fun x => ((R.ok v_k) >>= fun x => (R.ok (D.int 4)) >>= fun y => R.of (D.mod x y)) >>= fun y => R.of (lidx x y)) >>= fun y => R.of (D.mod x y)) >>= fun x => ((R.ok (D.int 7919)) >>= fun x => (R.ok v_k) >>= fun y => R.of (D.mulA x y)) >>= fun y => R.of (D.add x y)) >>= fun x => (R.ok (D.int 13)) >>= fun y => R.of (D.add x y)) >>= fun v0 => ((((((R.ok v0) >>= fun x => (R.ok v0) >>= fun y => R.of (D.mulA x y)) >>= fun x => (R.ok (D.int 2147483647)) >>= fun y => R.of (D.mod x y)) >>= fun x => (R.ok (D.int 48271)) >>= fun y => R.of (D.mulA x y)) >>= fun x => (R.ok (D.int 2147483647)) >>= fun y => R.of (D.mod x y)) >>= fun x => R.ok (Fl.rt x)))
def m__law_mixed (v_cell v_k : D) : R D := fin (B__law_mixed v_cell v_k)
/-! _law_draw -/
def B__law_draw (v_cell v_k : D) : R (Fl DK Unit) := ((((((R.ok v_cell) >>= fun x => ((R.ok (D.int 10)) >>= fun x => (R.ok (D.int 18)) >>= fun y => R.of (D.pow x y)) >>= fun y => (R.of (D.ge x y)) >>= fun z => R.of z.asB) >>= fun k => if k = true then (R.ok v_cell) else (R.ok (D.int 0))) >>= fun x => ((R.ok v_cell) >>= fun x => (((R.ok (D.int 1000)) >>= fun x => (R.ok v_k) >>= fun y => R.of (D.mulA x y)) >>= fun x => (R.ok []) >>= fun l => R.ok (((Sum.inr ("turns" : Str) : Key), x) :: l)) >>= fun l => R.ok (((Sum.inr ("cell" : Str) : Key), x) :: l)) >>= fun l => R.ok (((Sum.inr ("left" : Str) : Key), x) :: l)) >>= fun l => if l.length ≤ 15 then R.ok (dmerge [] l) else R.un) >>= fun x => R.ok (Fl.rt x))
def m__law_draw (v_cell v_k : D) : R DK := finW (B__law_draw v_cell v_k)
/-! _law_digit -/
def B__law_digit (st : DK) (v_below : D) : R (Fl (D × DK) DK) := (M.seq (S1 := DK) ((((R.ok (D.str "left")) >>= fun y => R.of (dget st y)) >>= fun x => (R.ok (D.int 0)) >>= fun y => (R.of (D.eq x y)) >>= fun z => R.of z.asB) >>= fun b => if b = true then (M.seq (S1 := DK) (((R.ok (D.int 4)) >>= fun x => R.of (range1 x)) >>= fun xs => forD (S := DK) (fun s2 i3 => ((((R.ok (D.str "turns")) >>= fun y => R.of (dget s2 y)) >>= fun x => (R.ok (D.int 1)) >>= fun y => R.of (D.add x y)) >>= fun x => (R.ok (D.str "turns")) >>= fun y => R.of (dset s2 y x) >>= fun v4 => (((((R.ok (D.str "left")) >>= fun y => R.of (dget v4 y)) >>= fun x => (R.ok (D.int 2147483647)) >>= fun y => R.of (D.mulA x y)) >>= fun x => ((((R.ok (D.str "cell")) >>= fun y => R.of (dget v4 y)) >>= fun x => (((R.ok (D.str "turns")) >>= fun y => R.of (dget v4 y)) >>= fun x => (R.ok []) >>= fun xs => R.ok (x :: xs)) >>= fun xs => R.ok (x :: xs)) >>= fun ds => m2 m__law_mixed (ds ++ [])) >>= fun y => R.of (D.add x y)) >>= fun x => (R.ok (D.str "left")) >>= fun y => R.of (dset v4 y x) >>= fun v5 => (R.ok (Fl.nx (v5)))))) xs (st)) fun s2 => (R.ok (Fl.nx (s2)))) else (R.ok (Fl.nx (st)))) fun s1 => ((((R.ok (D.str "left")) >>= fun y => R.of (dget s1 y)) >>= fun x => (R.ok v_below) >>= fun y => R.of (D.mod x y)) >>= fun v6 => ((((R.ok (D.str "left")) >>= fun y => R.of (dget s1 y)) >>= fun x => (R.ok v_below) >>= fun y => R.of (D.fdiv x y)) >>= fun x => (R.ok (D.str "left")) >>= fun y => R.of (dset s1 y x) >>= fun v7 => (bnd ((R.ok v6) >>= fun x => R.ok (x, v7)) fun x t => R.ok (Fl.rt (x, t))))))
def m__law_digit (st : DK) (v_below : D) : R (D × DK) := finS (B__law_digit st v_below)
/-! _law_kinds -/
def B__law_kinds (v_e : D) : R (Fl D Unit) := ((((R.ok (D.str "BadAssumptions")) >>= fun x10 => ((R.ok v_e) >>= fun v => R.of (isaX (t_isx "BadAssumptions") v)) >>= fun x11 => R.ok (D.tup [x10, x11])) >>= fun x14 => ((R.ok (D.str "BadBook")) >>= fun x12 => ((R.ok v_e) >>= fun v => R.of (isaX (t_isx "BadBook") v)) >>= fun x13 => R.ok (D.tup [x12, x13])) >>= fun x15 => R.ok [x14, x15]) >>= fun v9 => (((R.ok v9) >>= fun x => (((R.ok (D.str "BadClaim")) >>= fun x17 => ((R.ok v_e) >>= fun v => R.of (isaX (t_isx "BadClaim") v)) >>= fun x18 => R.ok (D.tup [x17, x18])) >>= fun x21 => ((R.ok (D.str "BadDeed")) >>= fun x19 => ((R.ok v_e) >>= fun v => R.of (isaX (t_isx "BadDeed") v)) >>= fun x20 => R.ok (D.tup [x19, x20])) >>= fun x22 => R.ok [x21, x22]) >>= fun y => R.of (lcat x y)) >>= fun v16 => (((R.ok v16) >>= fun x => (((R.ok (D.str "BadForm")) >>= fun x24 => ((R.ok v_e) >>= fun v => R.of (isaX (t_isx "BadForm") v)) >>= fun x25 => R.ok (D.tup [x24, x25])) >>= fun x28 => ((R.ok (D.str "BadLetters")) >>= fun x26 => ((R.ok v_e) >>= fun v => R.of (isaX (t_isx "BadLetters") v)) >>= fun x27 => R.ok (D.tup [x26, x27])) >>= fun x29 => R.ok [x28, x29]) >>= fun y => R.of (lcat x y)) >>= fun v23 => (((R.ok v23) >>= fun x => (((R.ok (D.str "BadMove")) >>= fun x31 => ((R.ok v_e) >>= fun v => R.of (isaX (t_isx "BadMove") v)) >>= fun x32 => R.ok (D.tup [x31, x32])) >>= fun x35 => ((R.ok (D.str "BadNumber")) >>= fun x33 => ((R.ok v_e) >>= fun v => R.of (isaX (t_isx "BadNumber") v)) >>= fun x34 => R.ok (D.tup [x33, x34])) >>= fun x36 => R.ok [x35, x36]) >>= fun y => R.of (lcat x y)) >>= fun v30 => (((R.ok v30) >>= fun x => (((R.ok (D.str "BadOrder")) >>= fun x38 => ((R.ok v_e) >>= fun v => R.of (isaX (t_isx "BadOrder") v)) >>= fun x39 => R.ok (D.tup [x38, x39])) >>= fun x42 => ((R.ok (D.str "BadPaper")) >>= fun x40 => ((R.ok v_e) >>= fun v => R.of (isaX (t_isx "BadPaper") v)) >>= fun x41 => R.ok (D.tup [x40, x41])) >>= fun x43 => R.ok [x42, x43]) >>= fun y => R.of (lcat x y)) >>= fun v37 => (((R.ok v37) >>= fun x => (((R.ok (D.str "BadPoint")) >>= fun x45 => ((R.ok v_e) >>= fun v => R.of (isaX (t_isx "BadPoint") v)) >>= fun x46 => R.ok (D.tup [x45, x46])) >>= fun x49 => ((R.ok (D.str "BadTerm")) >>= fun x47 => ((R.ok v_e) >>= fun v => R.of (isaX (t_isx "BadTerm") v)) >>= fun x48 => R.ok (D.tup [x47, x48])) >>= fun x50 => R.ok [x49, x50]) >>= fun y => R.of (lcat x y)) >>= fun v44 => (((R.ok v44) >>= fun x => (((R.ok (D.str "BadText")) >>= fun x52 => ((R.ok v_e) >>= fun v => R.of (isaX (t_isx "BadText") v)) >>= fun x53 => R.ok (D.tup [x52, x53])) >>= fun x56 => ((R.ok (D.str "BadTheory")) >>= fun x54 => ((R.ok v_e) >>= fun v => R.of (isaX (t_isx "BadTheory") v)) >>= fun x55 => R.ok (D.tup [x54, x55])) >>= fun x57 => R.ok [x56, x57]) >>= fun y => R.of (lcat x y)) >>= fun v51 => (((R.ok v51) >>= fun x => (((R.ok (D.str "BadWorld")) >>= fun x59 => ((R.ok v_e) >>= fun v => R.of (isaX (t_isx "BadWorld") v)) >>= fun x60 => R.ok (D.tup [x59, x60])) >>= fun x63 => ((R.ok (D.str "NoSuch")) >>= fun x61 => ((R.ok v_e) >>= fun v => R.of (isaX (t_isx "NoSuch") v)) >>= fun x62 => R.ok (D.tup [x61, x62])) >>= fun x64 => R.ok [x63, x64]) >>= fun y => R.of (lcat x y)) >>= fun v58 => (((R.ok v58) >>= fun x => (((R.ok (D.str "TooMany")) >>= fun x66 => ((R.ok v_e) >>= fun v => R.of (isaX (t_isx "TooMany") v)) >>= fun x67 => R.ok (D.tup [x66, x67])) >>= fun x70 => ((R.ok (D.str "base")) >>= fun x68 => ((R.ok v_e) >>= fun v => R.of (isaX (t_isx "ProofError") v)) >>= fun x69 => R.ok (D.tup [x68, x69])) >>= fun x71 => R.ok [x70, x71]) >>= fun y => R.of (lcat x y)) >>= fun v65 => (((R.ok v65) >>= fun x => (((R.ok (D.str "value")) >>= fun x73 => ((R.ok v_e) >>= fun v => R.of (isaX (t_isx "ValueError") v)) >>= fun x74 => R.ok (D.tup [x73, x74])) >>= fun x77 => ((R.ok (D.str "lookup")) >>= fun x75 => ((R.ok v_e) >>= fun v => R.of (isaX (t_isx "LookupError") v)) >>= fun x76 => R.ok (D.tup [x75, x76])) >>= fun x78 => R.ok [x77, x78]) >>= fun y => R.of (lcat x y)) >>= fun v72 => (((R.ok (D.str "overflow")) >>= fun x79 => ((R.ok v_e) >>= fun v => R.of (isaX (t_isx "OverflowError") v)) >>= fun x80 => R.ok (D.tup [x79, x80])) >>= fun x84 => appD v72 x84 fun v81 => (((((R.ok (D.lst v81)) >>= fun x => R.of x.items) >>= fun xs => R.of (compL (D.two fun c82 c83 => ((R.ok c83) >>= fun x => R.of x.asB)) (D.two fun c82 c83 => (R.ok c82)) xs)) >>= fun xs => R.ok (D.lst xs)) >>= fun x => R.ok (Fl.rt x)))))))))))))
def m__law_kinds (v_e : D) : R D := fin (B__law_kinds v_e)
/-! _law_valued -/
def B__law_valued (v_thing : D) : R (Fl D Unit) := (((((R.ok v_thing) >>= fun v => R.ok (D.exc "BadPoint" v)) >>= fun x86 => ((R.ok v_thing) >>= fun v => R.ok (D.exc "BadPoint" v)) >>= fun x87 => (R.ok (D.str "BadPoint")) >>= fun x88 => R.ok (D.tup [x86, x87, x88])) >>= fun x92 => (((R.ok v_thing) >>= fun v => R.ok (D.exc "BadNumber" v)) >>= fun x89 => ((R.ok v_thing) >>= fun v => R.ok (D.exc "BadNumber" v)) >>= fun x90 => (R.ok (D.str "BadNumber")) >>= fun x91 => R.ok (D.tup [x89, x90, x91])) >>= fun x93 => R.ok [x92, x93]) >>= fun v85 => ((((R.ok v85) >>= fun x => ((((R.ok v_thing) >>= fun v => R.ok (D.exc "BadLetters" v)) >>= fun x94 => ((R.ok v_thing) >>= fun v => R.ok (D.exc "BadLetters" v)) >>= fun x95 => (R.ok (D.str "BadLetters")) >>= fun x96 => R.ok (D.tup [x94, x95, x96])) >>= fun x97 => R.ok [x97]) >>= fun y => R.of (lcat x y)) >>= fun xs => R.ok (D.lst xs)) >>= fun x => R.ok (Fl.rt x)))
def m__law_valued (v_thing : D) : R D := fin (B__law_valued v_thing)
/-! _law_placed -/
def B__law_placed (v_thing : D) : R (Fl D Unit) := (((((R.ok v_thing) >>= fun v => R.ok (D.exc "BadClaim" v)) >>= fun x99 => ((R.ok v_thing) >>= fun v => R.ok (D.exc "BadClaim" v)) >>= fun x100 => (R.ok (D.str "BadClaim")) >>= fun x101 => R.ok (D.tup [x99, x100, x101])) >>= fun x105 => (((R.ok v_thing) >>= fun v => R.ok (D.exc "BadBook" v)) >>= fun x102 => ((R.ok v_thing) >>= fun v => R.ok (D.exc "BadBook" v)) >>= fun x103 => (R.ok (D.str "BadBook")) >>= fun x104 => R.ok (D.tup [x102, x103, x104])) >>= fun x106 => R.ok [x105, x106]) >>= fun v98 => (((R.ok v98) >>= fun x => ((((R.ok v_thing) >>= fun v => R.ok (D.exc "BadAssumptions" v)) >>= fun x108 => ((R.ok v_thing) >>= fun v => R.ok (D.exc "BadAssumptions" v)) >>= fun x109 => (R.ok (D.str "BadAssumptions")) >>= fun x110 => R.ok (D.tup [x108, x109, x110])) >>= fun x111 => R.ok [x111]) >>= fun y => R.of (lcat x y)) >>= fun v107 => (((R.ok v107) >>= fun x => ((((R.ok v_thing) >>= fun v => R.ok (D.exc "BadWorld" v)) >>= fun x113 => ((R.ok v_thing) >>= fun v => R.ok (D.exc "BadWorld" v)) >>= fun x114 => (R.ok (D.str "BadWorld")) >>= fun x115 => R.ok (D.tup [x113, x114, x115])) >>= fun x119 => (((R.ok v_thing) >>= fun v => R.ok (D.exc "BadTerm" v)) >>= fun x116 => ((R.ok v_thing) >>= fun v => R.ok (D.exc "BadTerm" v)) >>= fun x117 => (R.ok (D.str "BadTerm")) >>= fun x118 => R.ok (D.tup [x116, x117, x118])) >>= fun x120 => R.ok [x119, x120]) >>= fun y => R.of (lcat x y)) >>= fun v112 => (((R.ok v112) >>= fun x => ((((R.ok v_thing) >>= fun v => R.ok (D.exc "BadPaper" v)) >>= fun x122 => ((R.ok v_thing) >>= fun v => R.ok (D.exc "BadPaper" v)) >>= fun x123 => (R.ok (D.str "BadPaper")) >>= fun x124 => R.ok (D.tup [x122, x123, x124])) >>= fun x128 => (((R.ok v_thing) >>= fun v => R.ok (D.exc "BadText" v)) >>= fun x125 => ((R.ok v_thing) >>= fun v => R.ok (D.exc "BadText" v)) >>= fun x126 => (R.ok (D.str "BadText")) >>= fun x127 => R.ok (D.tup [x125, x126, x127])) >>= fun x129 => R.ok [x128, x129]) >>= fun y => R.of (lcat x y)) >>= fun v121 => (((R.ok v121) >>= fun x => ((((R.ok v_thing) >>= fun v => R.ok (D.exc "BadForm" v)) >>= fun x131 => ((R.ok v_thing) >>= fun v => R.ok (D.exc "BadForm" v)) >>= fun x132 => (R.ok (D.str "BadForm")) >>= fun x133 => R.ok (D.tup [x131, x132, x133])) >>= fun x137 => (((R.ok v_thing) >>= fun v => R.ok (D.exc "BadOrder" v)) >>= fun x134 => ((R.ok v_thing) >>= fun v => R.ok (D.exc "BadOrder" v)) >>= fun x135 => (R.ok (D.str "BadOrder")) >>= fun x136 => R.ok (D.tup [x134, x135, x136])) >>= fun x138 => R.ok [x137, x138]) >>= fun y => R.of (lcat x y)) >>= fun v130 => (((R.ok v130) >>= fun x => ((((R.ok v_thing) >>= fun v => R.ok (D.exc "BadMove" v)) >>= fun x140 => ((R.ok v_thing) >>= fun v => R.ok (D.exc "BadMove" v)) >>= fun x141 => (R.ok (D.str "BadMove")) >>= fun x142 => R.ok (D.tup [x140, x141, x142])) >>= fun x146 => (((R.ok v_thing) >>= fun v => R.ok (D.exc "BadDeed" v)) >>= fun x143 => ((R.ok v_thing) >>= fun v => R.ok (D.exc "BadDeed" v)) >>= fun x144 => (R.ok (D.str "BadDeed")) >>= fun x145 => R.ok (D.tup [x143, x144, x145])) >>= fun x147 => R.ok [x146, x147]) >>= fun y => R.of (lcat x y)) >>= fun v139 => ((((R.ok v139) >>= fun x => ((((R.ok v_thing) >>= fun v => R.ok (D.exc "BadTheory" v)) >>= fun x148 => ((R.ok v_thing) >>= fun v => R.ok (D.exc "BadTheory" v)) >>= fun x149 => (R.ok (D.str "BadTheory")) >>= fun x150 => R.ok (D.tup [x148, x149, x150])) >>= fun x151 => R.ok [x151]) >>= fun y => R.of (lcat x y)) >>= fun xs => R.ok (D.lst xs)) >>= fun x => R.ok (Fl.rt x))))))))
def m__law_placed (v_thing : D) : R D := fin (B__law_placed v_thing)
/-! _law_right -/
def B__law_right (v_thing : D) : R (Fl D Unit) := (M.seq (S1 := Unit) (((((R.ok v_thing) >>= fun x => (R.ok []) >>= fun xs => R.ok (x :: xs)) >>= fun ds => m1 m__law_valued (ds ++ [])) >>= fun x => R.of x.items) >>= fun xs => forD (S := Unit) (fun s152 => D.three fun i153 i154 i155 => (M.seq (S1 := Unit) ((((((R.ok i153) >>= fun x => (R.ok []) >>= fun xs => R.ok (x :: xs)) >>= fun ds => m1 m__law_kinds (ds ++ [])) >>= fun x => ((((R.ok i155) >>= fun x => ((R.ok (D.str "base")) >>= fun x => ((R.ok (D.str "value")) >>= fun x => (R.ok []) >>= fun xs => R.ok (x :: xs)) >>= fun xs => R.ok (x :: xs)) >>= fun xs => R.ok (x :: xs)) >>= fun xs => if xs.length ≤ lim then R.ok (xs) else R.un) >>= fun xs => R.ok (D.lst xs)) >>= fun y => (R.of (D.ne x y)) >>= fun z => R.of z.asB) >>= fun x => if x = true then R.ok true else ((((R.ok i154) >>= fun x => (R.ok []) >>= fun xs => R.ok (x :: xs)) >>= fun ds => m1 m__law_kinds (ds ++ [])) >>= fun x => ((((R.ok i155) >>= fun x => ((R.ok (D.str "base")) >>= fun x => ((R.ok (D.str "value")) >>= fun x => (R.ok []) >>= fun xs => R.ok (x :: xs)) >>= fun xs => R.ok (x :: xs)) >>= fun xs => R.ok (x :: xs)) >>= fun xs => if xs.length ≤ lim then R.ok (xs) else R.un) >>= fun xs => R.ok (D.lst xs)) >>= fun y => (R.of (D.ne x y)) >>= fun z => R.of z.asB)) >>= fun b => if b = true then ((R.ok (D.bl false)) >>= fun x => R.ok (Fl.rt x)) else (R.ok (Fl.nx ()))) fun s156 => (((((R.ok i153) >>= fun v => R.of (v.fldN (t_fld "value"))) >>= fun x => (R.ok v_thing) >>= fun y => (R.of (D.ne x y)) >>= fun z => R.of z.asB) >>= fun x => if x = true then R.ok true else (((R.ok i154) >>= fun v => R.of (v.fldN (t_fld "value"))) >>= fun x => (R.ok v_thing) >>= fun y => (R.of (D.ne x y)) >>= fun z => R.of z.asB)) >>= fun b => if b = true then ((R.ok (D.bl false)) >>= fun x => R.ok (Fl.rt x)) else (R.ok (Fl.nx ()))))) xs ()) fun s152 => (M.seq (S1 := Unit) (((((R.ok v_thing) >>= fun x => (R.ok []) >>= fun xs => R.ok (x :: xs)) >>= fun ds => m1 m__law_placed (ds ++ [])) >>= fun x => R.of x.items) >>= fun xs => forD (S := Unit) (fun s157 => D.three fun i158 i159 i160 => (M.seq (S1 := Unit) ((((((R.ok i158) >>= fun x => (R.ok []) >>= fun xs => R.ok (x :: xs)) >>= fun ds => m1 m__law_kinds (ds ++ [])) >>= fun x => ((((R.ok i160) >>= fun x => ((R.ok (D.str "base")) >>= fun x => ((R.ok (D.str "value")) >>= fun x => (R.ok []) >>= fun xs => R.ok (x :: xs)) >>= fun xs => R.ok (x :: xs)) >>= fun xs => R.ok (x :: xs)) >>= fun xs => if xs.length ≤ lim then R.ok (xs) else R.un) >>= fun xs => R.ok (D.lst xs)) >>= fun y => (R.of (D.ne x y)) >>= fun z => R.of z.asB) >>= fun x => if x = true then R.ok true else ((((R.ok i159) >>= fun x => (R.ok []) >>= fun xs => R.ok (x :: xs)) >>= fun ds => m1 m__law_kinds (ds ++ [])) >>= fun x => ((((R.ok i160) >>= fun x => ((R.ok (D.str "base")) >>= fun x => ((R.ok (D.str "value")) >>= fun x => (R.ok []) >>= fun xs => R.ok (x :: xs)) >>= fun xs => R.ok (x :: xs)) >>= fun xs => R.ok (x :: xs)) >>= fun xs => if xs.length ≤ lim then R.ok (xs) else R.un) >>= fun xs => R.ok (D.lst xs)) >>= fun y => (R.of (D.ne x y)) >>= fun z => R.of z.asB)) >>= fun b => if b = true then ((R.ok (D.bl false)) >>= fun x => R.ok (Fl.rt x)) else (R.ok (Fl.nx ()))) fun s161 => (((((R.ok i158) >>= fun v => R.of (v.fldN (t_fld "place"))) >>= fun x => (R.ok v_thing) >>= fun y => (R.of (D.ne x y)) >>= fun z => R.of z.asB) >>= fun x => if x = true then R.ok true else (((R.ok i159) >>= fun v => R.of (v.fldN (t_fld "place"))) >>= fun x => (R.ok v_thing) >>= fun y => (R.of (D.ne x y)) >>= fun z => R.of z.asB)) >>= fun b => if b = true then ((R.ok (D.bl false)) >>= fun x => R.ok (Fl.rt x)) else (R.ok (Fl.nx ()))))) xs ()) fun s157 => (M.seq (S1 := Unit) (((((R.ok v_thing) >>= fun v => R.ok (D.exc "NoSuch" v)) >>= fun x162 => ((R.ok v_thing) >>= fun v => R.ok (D.exc "NoSuch" v)) >>= fun x163 => R.ok (D.tup [x162, x163])) >>= fun x => R.of x.items) >>= fun xs => forD (S := Unit) (fun s164 i165 => ((((((R.ok i165) >>= fun x => (R.ok []) >>= fun xs => R.ok (x :: xs)) >>= fun ds => m1 m__law_kinds (ds ++ [])) >>= fun x => (((R.ok (D.str "NoSuch")) >>= fun x166 => (R.ok (D.str "lookup")) >>= fun x167 => R.ok [x166, x167]) >>= fun xs => R.ok (D.lst xs)) >>= fun y => (R.of (D.ne x y)) >>= fun z => R.of z.asB) >>= fun x => if x = true then R.ok true else (((R.ok i165) >>= fun v => R.of (v.fldN (t_fld "value"))) >>= fun x => (R.ok v_thing) >>= fun y => (R.of (D.ne x y)) >>= fun z => R.of z.asB)) >>= fun b => if b = true then ((R.ok (D.bl false)) >>= fun x => R.ok (Fl.rt x)) else (R.ok (Fl.nx ())))) xs ()) fun s164 => (M.seq (S1 := Unit) (((((R.ok v_thing) >>= fun v => R.ok (D.exc "TooMany" v)) >>= fun x168 => ((R.ok v_thing) >>= fun v => R.ok (D.exc "TooMany" v)) >>= fun x169 => R.ok (D.tup [x168, x169])) >>= fun x => R.of x.items) >>= fun xs => forD (S := Unit) (fun s170 i171 => ((((((R.ok i171) >>= fun x => (R.ok []) >>= fun xs => R.ok (x :: xs)) >>= fun ds => m1 m__law_kinds (ds ++ [])) >>= fun x => (((R.ok (D.str "TooMany")) >>= fun x172 => (R.ok (D.str "overflow")) >>= fun x173 => R.ok [x172, x173]) >>= fun xs => R.ok (D.lst xs)) >>= fun y => (R.of (D.ne x y)) >>= fun z => R.of z.asB) >>= fun x => if x = true then R.ok true else (((R.ok i171) >>= fun v => R.of (v.fldN (t_fld "most"))) >>= fun x => (R.ok v_thing) >>= fun y => (R.of (D.ne x y)) >>= fun z => R.of z.asB)) >>= fun b => if b = true then ((R.ok (D.bl false)) >>= fun x => R.ok (Fl.rt x)) else (R.ok (Fl.nx ())))) xs ()) fun s170 => ((R.ok (D.bl true)) >>= fun x => R.ok (Fl.rt x))))))
def m__law_right (v_thing : D) : R D := fin (B__law_right v_thing)
/-! law -/
def B_law (v_script : List D) : R (Fl D Unit) := (M.seq (S1 := Unit) (((((R.ok v_script) >>= fun x => (R.ok none) >>= fun l => ((R.ok (D.int 4)) >>= fun x => R.of (x.asI.map some)) >>= fun h => R.of (some (cutD x l h))) >>= fun x => (((R.ok v_script) >>= fun v => R.of (lsum v)) >>= fun x174 => R.ok [x174]) >>= fun y => R.of (lcat x y)) >>= fun xs => R.ok (enumL 0 xs)) >>= fun xs => forD (S := Unit) (fun s175 => D.two fun i176 i177 => ((((R.ok i177) >>= fun x => ((R.ok i176) >>= fun x => (R.ok []) >>= fun xs => R.ok (x :: xs)) >>= fun xs => R.ok (x :: xs)) >>= fun ds => mW2 m__law_draw (ds ++ [])) >>= fun v178 => (bnd (bnd (((R.ok (D.int 100000)) >>= fun x => (R.ok []) >>= fun xs => R.ok (x :: xs)) >>= fun x => R.ok (x, v178)) fun xs t => mS1 m__law_digit t (xs ++ [])) fun v180 s182 => ((((R.ok v180) >>= fun x => (((R.ok (D.int 0)) >>= fun x => (R.ok v180) >>= fun y => R.of (D.sub x y)) >>= fun x => (((R.ok (D.str "ab")) >>= fun x => ((R.ok v180) >>= fun x => (R.ok (D.int 50)) >>= fun y => R.of (D.mod x y)) >>= fun y => R.of (D.mulX x y)) >>= fun x => (((R.ok (D.str "above")) >>= fun x187 => ((R.ok (D.int 0)) >>= fun x185 => (R.ok v180) >>= fun x186 => R.ok (D.tup [x185, x186])) >>= fun x188 => R.ok (D.tup [x187, x188])) >>= fun x => ((R.ok D.non) >>= fun x => ((((R.ok (D.int 10)) >>= fun x => (R.ok (D.int 30)) >>= fun y => R.of (D.powB x y)) >>= fun x189 => (R.ok (D.tup [])) >>= fun x190 => R.ok (D.tup [x189, x190])) >>= fun x => ((((R.ok v180) >>= fun x191 => R.ok (D.tup [x191])) >>= fun x => (R.ok (D.int 9)) >>= fun y => R.of (D.mulA x y)) >>= fun x => (R.ok []) >>= fun xs => R.ok (x :: xs)) >>= fun xs => R.ok (x :: xs)) >>= fun xs => R.ok (x :: xs)) >>= fun xs => R.ok (x :: xs)) >>= fun xs => R.ok (x :: xs)) >>= fun xs => R.ok (x :: xs)) >>= fun xs => R.ok (x :: xs)) >>= fun xs => if xs.length ≤ lim then R.ok (xs) else R.un) >>= fun v184 => (bnd (bnd (bnd (bnd (bnd (bnd ((R.ok v184) >>= fun x => bnd (bnd (((R.ok (D.int 7)) >>= fun x => (R.ok []) >>= fun xs => R.ok (x :: xs)) >>= fun x => R.ok (x, s182)) fun xs t => mS1 m__law_digit t (xs ++ [])) fun u193 t => R.of (lidx x u193) >>= fun y => R.ok (y, t)) fun z195 s194 => bnd (R.ok ([], s194)) fun xs t => R.ok (z195 :: xs, t)) fun xs t => m1 m__law_right (xs ++ []) >>= fun x => R.ok (x, t)) fun x t => R.of x.asB >>= fun k => R.ok (k, t)) fun x t => R.ok (!x, t)) fun z199 s198 => if z199 = true then R.ok (true, s198) else (((((((((R.ok (D.int 10)) >>= fun x => (R.ok (D.int 50)) >>= fun y => R.of (D.powB x y)) >>= fun x => (R.ok (D.int 50)) >>= fun y => R.of (D.powB x y)) >>= fun x => (R.ok (D.int 2)) >>= fun y => R.of (D.powB x y)) >>= fun x => (R.ok []) >>= fun xs => R.ok (x :: xs)) >>= fun ds => m1 m__law_right (ds ++ [])) >>= fun x => R.of x.asB) >>= fun x => R.ok (!x)) >>= fun x => R.ok (x, s198))) fun z202 s200 => if z202 = true then ((R.ok (D.bl false)) >>= fun x => R.ok (Fl.rt x)) else (R.ok (Fl.nx ()))))))) xs ()) fun s175 => ((((R.ok (D.exc "BadPoint" D.non)) >>= fun x => ((R.ok (D.exc "BadNumber" D.non)) >>= fun x => ((R.ok (D.exc "BadLetters" D.non)) >>= fun x => ((R.ok (D.exc "NoSuch" D.non)) >>= fun x => (R.ok []) >>= fun xs => R.ok (x :: xs)) >>= fun xs => R.ok (x :: xs)) >>= fun xs => R.ok (x :: xs)) >>= fun xs => R.ok (x :: xs)) >>= fun xs => if xs.length ≤ lim then R.ok (xs) else R.un) >>= fun v203 => ((((R.ok (D.exc "BadClaim" D.non)) >>= fun x => ((R.ok (D.exc "BadAssumptions" D.non)) >>= fun x => ((R.ok (D.exc "BadWorld" D.non)) >>= fun x => ((R.ok (D.exc "BadTerm" D.non)) >>= fun x => ((R.ok (D.exc "BadPaper" D.non)) >>= fun x => ((R.ok (D.exc "BadText" D.non)) >>= fun x => ((R.ok (D.exc "BadBook" D.non)) >>= fun x => ((R.ok (D.exc "BadForm" D.non)) >>= fun x => ((R.ok (D.exc "BadOrder" D.non)) >>= fun x => (R.ok []) >>= fun xs => R.ok (x :: xs)) >>= fun xs => R.ok (x :: xs)) >>= fun xs => R.ok (x :: xs)) >>= fun xs => R.ok (x :: xs)) >>= fun xs => R.ok (x :: xs)) >>= fun xs => R.ok (x :: xs)) >>= fun xs => R.ok (x :: xs)) >>= fun xs => R.ok (x :: xs)) >>= fun xs => R.ok (x :: xs)) >>= fun xs => if xs.length ≤ lim then R.ok (xs) else R.un) >>= fun v204 => (((R.ok v204) >>= fun x => (((R.ok (D.exc "BadMove" D.non)) >>= fun x => ((R.ok (D.exc "BadDeed" D.non)) >>= fun x => ((R.ok (D.exc "BadTheory" D.non)) >>= fun x => (R.ok []) >>= fun xs => R.ok (x :: xs)) >>= fun xs => R.ok (x :: xs)) >>= fun xs => R.ok (x :: xs)) >>= fun xs => if xs.length ≤ lim then R.ok (xs) else R.un) >>= fun y => R.of (lcat x y)) >>= fun v205 => (M.seq (S1 := Unit) (((((((R.ok (D.lst v203)) >>= fun x => R.of x.items) >>= fun xs => R.of (compL (fun c206 => (R.ok true)) (fun c206 => ((R.ok c206) >>= fun v => R.of (v.fldN (t_fld "value")))) xs)) >>= fun xs => R.ok (D.lst xs)) >>= fun x => ((((R.ok D.non) >>= fun x207 => R.ok [x207]) >>= fun x => (R.ok (D.int 4)) >>= fun y => R.of (lrep x y)) >>= fun xs => R.ok (D.lst xs)) >>= fun y => (R.of (D.ne x y)) >>= fun z => R.of z.asB) >>= fun x => if x = true then R.ok true else (((((R.ok (D.lst v205)) >>= fun x => R.of x.items) >>= fun xs => R.of (compL (fun c208 => (R.ok true)) (fun c208 => ((R.ok c208) >>= fun v => R.of (v.fldN (t_fld "place")))) xs)) >>= fun xs => R.ok (D.lst xs)) >>= fun x => ((((R.ok D.non) >>= fun x209 => R.ok [x209]) >>= fun x => (R.ok (D.int 12)) >>= fun y => R.of (lrep x y)) >>= fun xs => R.ok (D.lst xs)) >>= fun y => (R.of (D.ne x y)) >>= fun z => R.of z.asB)) >>= fun b => if b = true then ((R.ok (D.bl false)) >>= fun x => R.ok (Fl.rt x)) else (R.ok (Fl.nx ()))) fun s210 => (M.seq (S1 := Unit) ((((R.ok (D.str "zqzq")) >>= fun x211 => ((R.ok (D.int 10)) >>= fun x => (R.ok (D.int 30)) >>= fun y => R.of (D.powB x y)) >>= fun x212 => (R.ok (D.int 70707)) >>= fun x213 => R.ok (D.tup [x211, x212, x213])) >>= fun x => R.of x.items) >>= fun xs => forD (S := Unit) (fun s214 i215 => ((((((((R.ok i215) >>= fun x => (R.ok []) >>= fun xs => R.ok (x :: xs)) >>= fun ds => m1 m__law_valued (ds ++ [])) >>= fun x => R.of x.asL) >>= fun x => ((((R.ok i215) >>= fun x => (R.ok []) >>= fun xs => R.ok (x :: xs)) >>= fun ds => m1 m__law_placed (ds ++ [])) >>= fun x => R.of x.asL) >>= fun y => R.of (lcat x y)) >>= fun xs => R.of (compL (D.three fun c217 c218 c219 => (R.ok true)) (D.three fun c217 c218 c219 => (R.ok c217)) xs)) >>= fun x => (((R.ok i215) >>= fun v => R.ok (D.exc "NoSuch" v)) >>= fun x220 => ((R.ok i215) >>= fun v => R.ok (D.exc "TooMany" v)) >>= fun x221 => R.ok [x220, x221]) >>= fun y => R.of (lcat x y)) >>= fun v216 => ((((((R.ok (D.lst v216)) >>= fun x => R.of x.items) >>= fun xs => R.of (compL (fun c222 => (((R.ok i215) >>= fun v => R.of (strX t_msg v)) >>= fun x => ((R.ok c222) >>= fun v => R.of (strX t_msg v)) >>= fun y => (R.of (D.inS x y)) >>= fun z => R.of z.asB)) (fun c222 => (R.ok c222)) xs)) >>= fun xs => R.ok (D.lst xs)) >>= fun x => ((R.ok []) >>= fun xs => R.ok (D.lst xs)) >>= fun y => (R.of (D.ne x y)) >>= fun z => R.of z.asB) >>= fun b => if b = true then ((R.ok (D.bl false)) >>= fun x => R.ok (Fl.rt x)) else (R.ok (Fl.nx ()))))) xs ()) fun s214 => ((R.ok (D.bl true)) >>= fun x => R.ok (Fl.rt x))))))))
def m_law (v_script : List D) : R D := fin (B_law v_script)
end K99
end
section
set_option Elab.async false
set_option linter.all false
set_option maxRecDepth 100000
set_option maxHeartbeats 4000000
set_option autoImplicit false
namespace K99
open PySem PySem.Spec PyProof.Rows L2 DL
def top (i : Nat) : Stmt := PySem.Challenge.pw_prooforbar_k99_errors_by_hand.main.body.getD i (.Pass ⟨0, 0, 0, 0⟩)
abbrev FnP (K : PySem.W.Frag) (x : Str) (st : Stmt) (f : Addr) (fd : FuncData) : Prop := FunD K x x (defArgs st) (defBody st) (defScope st) [] [] f fd
def mth (i : Nat) : Stmt := match top i with
  | .ClassDef _ _ _ b .. => b.getD 0 (.Pass ⟨0, 0, 0, 0⟩)
  | _ => .Pass ⟨0, 0, 0, 0⟩
structure Tx (K : PySem.W.Frag) (mg : Str → Option Value) [TN] where
  A_ProofError : Addr
  gA_ProofError : mg "ProofError" = some (.ref A_ProofError)
  A_BadClaim : Addr
  gA_BadClaim : mg "BadClaim" = some (.ref A_BadClaim)
  A_BadAssumptions : Addr
  gA_BadAssumptions : mg "BadAssumptions" = some (.ref A_BadAssumptions)
  A_BadWorld : Addr
  gA_BadWorld : mg "BadWorld" = some (.ref A_BadWorld)
  A_BadPoint : Addr
  gA_BadPoint : mg "BadPoint" = some (.ref A_BadPoint)
  A_BadTerm : Addr
  gA_BadTerm : mg "BadTerm" = some (.ref A_BadTerm)
  A_BadPaper : Addr
  gA_BadPaper : mg "BadPaper" = some (.ref A_BadPaper)
  A_BadText : Addr
  gA_BadText : mg "BadText" = some (.ref A_BadText)
  A_BadNumber : Addr
  gA_BadNumber : mg "BadNumber" = some (.ref A_BadNumber)
  A_BadLetters : Addr
  gA_BadLetters : mg "BadLetters" = some (.ref A_BadLetters)
  A_BadBook : Addr
  gA_BadBook : mg "BadBook" = some (.ref A_BadBook)
  A_BadForm : Addr
  gA_BadForm : mg "BadForm" = some (.ref A_BadForm)
  A_BadOrder : Addr
  gA_BadOrder : mg "BadOrder" = some (.ref A_BadOrder)
  A_BadMove : Addr
  gA_BadMove : mg "BadMove" = some (.ref A_BadMove)
  A_BadDeed : Addr
  gA_BadDeed : mg "BadDeed" = some (.ref A_BadDeed)
  A_BadTheory : Addr
  gA_BadTheory : mg "BadTheory" = some (.ref A_BadTheory)
  A_TooMany : Addr
  gA_TooMany : mg "TooMany" = some (.ref A_TooMany)
  A_NoSuch : Addr
  gA_NoSuch : mg "NoSuch" = some (.ref A_NoSuch)
  I_BadClaim : Addr
  dI_BadClaim : FuncData
  E_BadClaim : ErG K mg "ValueError" [.type "ValueError", .type "Exception", .type "BaseException", .type "object"] "ValueError.__new__" "ValueError.__init__" "BadClaim" "place" A_BadClaim I_BadClaim
  EC_BadClaim : ErC K A_BadClaim "place"
  ES_BadClaim : StC K A_BadClaim
  FI_BadClaim : FunD K "__init__" "BadClaim.__init__" (defArgs (mth 2)) (defBody (mth 2)) (defScope (mth 2)) [.non] [] I_BadClaim dI_BadClaim
  EB_BadClaim : EBn K dI_BadClaim "place" true
  EO_BadClaim : EbO K "ValueError.__init__" A_ProofError
  I_BadAssumptions : Addr
  dI_BadAssumptions : FuncData
  E_BadAssumptions : ErG K mg "ValueError" [.type "ValueError", .type "Exception", .type "BaseException", .type "object"] "ValueError.__new__" "ValueError.__init__" "BadAssumptions" "place" A_BadAssumptions I_BadAssumptions
  EC_BadAssumptions : ErC K A_BadAssumptions "place"
  ES_BadAssumptions : StC K A_BadAssumptions
  FI_BadAssumptions : FunD K "__init__" "BadAssumptions.__init__" (defArgs (mth 3)) (defBody (mth 3)) (defScope (mth 3)) [.non] [] I_BadAssumptions dI_BadAssumptions
  EB_BadAssumptions : EBn K dI_BadAssumptions "place" true
  EO_BadAssumptions : EbO K "ValueError.__init__" A_ProofError
  I_BadWorld : Addr
  dI_BadWorld : FuncData
  E_BadWorld : ErG K mg "ValueError" [.type "ValueError", .type "Exception", .type "BaseException", .type "object"] "ValueError.__new__" "ValueError.__init__" "BadWorld" "place" A_BadWorld I_BadWorld
  EC_BadWorld : ErC K A_BadWorld "place"
  ES_BadWorld : StC K A_BadWorld
  FI_BadWorld : FunD K "__init__" "BadWorld.__init__" (defArgs (mth 4)) (defBody (mth 4)) (defScope (mth 4)) [.non] [] I_BadWorld dI_BadWorld
  EB_BadWorld : EBn K dI_BadWorld "place" true
  EO_BadWorld : EbO K "ValueError.__init__" A_ProofError
  I_BadPoint : Addr
  dI_BadPoint : FuncData
  E_BadPoint : ErG K mg "ValueError" [.type "ValueError", .type "Exception", .type "BaseException", .type "object"] "ValueError.__new__" "ValueError.__init__" "BadPoint" "value" A_BadPoint I_BadPoint
  EC_BadPoint : ErC K A_BadPoint "value"
  ES_BadPoint : StC K A_BadPoint
  FI_BadPoint : FunD K "__init__" "BadPoint.__init__" (defArgs (mth 5)) (defBody (mth 5)) (defScope (mth 5)) [.non] [] I_BadPoint dI_BadPoint
  EB_BadPoint : EBn K dI_BadPoint "value" true
  EO_BadPoint : EbO K "ValueError.__init__" A_ProofError
  I_BadTerm : Addr
  dI_BadTerm : FuncData
  E_BadTerm : ErG K mg "ValueError" [.type "ValueError", .type "Exception", .type "BaseException", .type "object"] "ValueError.__new__" "ValueError.__init__" "BadTerm" "place" A_BadTerm I_BadTerm
  EC_BadTerm : ErC K A_BadTerm "place"
  ES_BadTerm : StC K A_BadTerm
  FI_BadTerm : FunD K "__init__" "BadTerm.__init__" (defArgs (mth 6)) (defBody (mth 6)) (defScope (mth 6)) [.non] [] I_BadTerm dI_BadTerm
  EB_BadTerm : EBn K dI_BadTerm "place" true
  EO_BadTerm : EbO K "ValueError.__init__" A_ProofError
  I_BadPaper : Addr
  dI_BadPaper : FuncData
  E_BadPaper : ErG K mg "ValueError" [.type "ValueError", .type "Exception", .type "BaseException", .type "object"] "ValueError.__new__" "ValueError.__init__" "BadPaper" "place" A_BadPaper I_BadPaper
  EC_BadPaper : ErC K A_BadPaper "place"
  ES_BadPaper : StC K A_BadPaper
  FI_BadPaper : FunD K "__init__" "BadPaper.__init__" (defArgs (mth 7)) (defBody (mth 7)) (defScope (mth 7)) [.non] [] I_BadPaper dI_BadPaper
  EB_BadPaper : EBn K dI_BadPaper "place" true
  EO_BadPaper : EbO K "ValueError.__init__" A_ProofError
  I_BadText : Addr
  dI_BadText : FuncData
  E_BadText : ErG K mg "ValueError" [.type "ValueError", .type "Exception", .type "BaseException", .type "object"] "ValueError.__new__" "ValueError.__init__" "BadText" "place" A_BadText I_BadText
  EC_BadText : ErC K A_BadText "place"
  ES_BadText : StC K A_BadText
  FI_BadText : FunD K "__init__" "BadText.__init__" (defArgs (mth 8)) (defBody (mth 8)) (defScope (mth 8)) [.non] [] I_BadText dI_BadText
  EB_BadText : EBn K dI_BadText "place" true
  EO_BadText : EbO K "ValueError.__init__" A_ProofError
  I_BadNumber : Addr
  dI_BadNumber : FuncData
  E_BadNumber : ErG K mg "ValueError" [.type "ValueError", .type "Exception", .type "BaseException", .type "object"] "ValueError.__new__" "ValueError.__init__" "BadNumber" "value" A_BadNumber I_BadNumber
  EC_BadNumber : ErC K A_BadNumber "value"
  ES_BadNumber : StC K A_BadNumber
  FI_BadNumber : FunD K "__init__" "BadNumber.__init__" (defArgs (mth 9)) (defBody (mth 9)) (defScope (mth 9)) [.non] [] I_BadNumber dI_BadNumber
  EB_BadNumber : EBn K dI_BadNumber "value" true
  EO_BadNumber : EbO K "ValueError.__init__" A_ProofError
  I_BadLetters : Addr
  dI_BadLetters : FuncData
  E_BadLetters : ErG K mg "ValueError" [.type "ValueError", .type "Exception", .type "BaseException", .type "object"] "ValueError.__new__" "ValueError.__init__" "BadLetters" "value" A_BadLetters I_BadLetters
  EC_BadLetters : ErC K A_BadLetters "value"
  ES_BadLetters : StC K A_BadLetters
  FI_BadLetters : FunD K "__init__" "BadLetters.__init__" (defArgs (mth 10)) (defBody (mth 10)) (defScope (mth 10)) [.non] [] I_BadLetters dI_BadLetters
  EB_BadLetters : EBn K dI_BadLetters "value" true
  EO_BadLetters : EbO K "ValueError.__init__" A_ProofError
  I_BadBook : Addr
  dI_BadBook : FuncData
  E_BadBook : ErG K mg "ValueError" [.type "ValueError", .type "Exception", .type "BaseException", .type "object"] "ValueError.__new__" "ValueError.__init__" "BadBook" "place" A_BadBook I_BadBook
  EC_BadBook : ErC K A_BadBook "place"
  ES_BadBook : StC K A_BadBook
  FI_BadBook : FunD K "__init__" "BadBook.__init__" (defArgs (mth 11)) (defBody (mth 11)) (defScope (mth 11)) [.non] [] I_BadBook dI_BadBook
  EB_BadBook : EBn K dI_BadBook "place" true
  EO_BadBook : EbO K "ValueError.__init__" A_ProofError
  I_BadForm : Addr
  dI_BadForm : FuncData
  E_BadForm : ErG K mg "ValueError" [.type "ValueError", .type "Exception", .type "BaseException", .type "object"] "ValueError.__new__" "ValueError.__init__" "BadForm" "place" A_BadForm I_BadForm
  EC_BadForm : ErC K A_BadForm "place"
  ES_BadForm : StC K A_BadForm
  FI_BadForm : FunD K "__init__" "BadForm.__init__" (defArgs (mth 12)) (defBody (mth 12)) (defScope (mth 12)) [.non] [] I_BadForm dI_BadForm
  EB_BadForm : EBn K dI_BadForm "place" true
  EO_BadForm : EbO K "ValueError.__init__" A_ProofError
  I_BadOrder : Addr
  dI_BadOrder : FuncData
  E_BadOrder : ErG K mg "ValueError" [.type "ValueError", .type "Exception", .type "BaseException", .type "object"] "ValueError.__new__" "ValueError.__init__" "BadOrder" "place" A_BadOrder I_BadOrder
  EC_BadOrder : ErC K A_BadOrder "place"
  ES_BadOrder : StC K A_BadOrder
  FI_BadOrder : FunD K "__init__" "BadOrder.__init__" (defArgs (mth 13)) (defBody (mth 13)) (defScope (mth 13)) [.non] [] I_BadOrder dI_BadOrder
  EB_BadOrder : EBn K dI_BadOrder "place" true
  EO_BadOrder : EbO K "ValueError.__init__" A_ProofError
  I_BadMove : Addr
  dI_BadMove : FuncData
  E_BadMove : ErG K mg "ValueError" [.type "ValueError", .type "Exception", .type "BaseException", .type "object"] "ValueError.__new__" "ValueError.__init__" "BadMove" "place" A_BadMove I_BadMove
  EC_BadMove : ErC K A_BadMove "place"
  ES_BadMove : StC K A_BadMove
  FI_BadMove : FunD K "__init__" "BadMove.__init__" (defArgs (mth 14)) (defBody (mth 14)) (defScope (mth 14)) [.non] [] I_BadMove dI_BadMove
  EB_BadMove : EBn K dI_BadMove "place" true
  EO_BadMove : EbO K "ValueError.__init__" A_ProofError
  I_BadDeed : Addr
  dI_BadDeed : FuncData
  E_BadDeed : ErG K mg "ValueError" [.type "ValueError", .type "Exception", .type "BaseException", .type "object"] "ValueError.__new__" "ValueError.__init__" "BadDeed" "place" A_BadDeed I_BadDeed
  EC_BadDeed : ErC K A_BadDeed "place"
  ES_BadDeed : StC K A_BadDeed
  FI_BadDeed : FunD K "__init__" "BadDeed.__init__" (defArgs (mth 15)) (defBody (mth 15)) (defScope (mth 15)) [.non] [] I_BadDeed dI_BadDeed
  EB_BadDeed : EBn K dI_BadDeed "place" true
  EO_BadDeed : EbO K "ValueError.__init__" A_ProofError
  I_BadTheory : Addr
  dI_BadTheory : FuncData
  E_BadTheory : ErG K mg "ValueError" [.type "ValueError", .type "Exception", .type "BaseException", .type "object"] "ValueError.__new__" "ValueError.__init__" "BadTheory" "place" A_BadTheory I_BadTheory
  EC_BadTheory : ErC K A_BadTheory "place"
  ES_BadTheory : StC K A_BadTheory
  FI_BadTheory : FunD K "__init__" "BadTheory.__init__" (defArgs (mth 16)) (defBody (mth 16)) (defScope (mth 16)) [.non] [] I_BadTheory dI_BadTheory
  EB_BadTheory : EBn K dI_BadTheory "place" true
  EO_BadTheory : EbO K "ValueError.__init__" A_ProofError
  I_TooMany : Addr
  dI_TooMany : FuncData
  E_TooMany : ErG K mg "OverflowError" [.type "OverflowError", .type "ArithmeticError", .type "Exception", .type "BaseException", .type "object"] "OverflowError.__new__" "OverflowError.__init__" "TooMany" "most" A_TooMany I_TooMany
  EC_TooMany : ErC K A_TooMany "most"
  ES_TooMany : StC K A_TooMany
  FI_TooMany : FunD K "__init__" "TooMany.__init__" (defArgs (mth 17)) (defBody (mth 17)) (defScope (mth 17)) [] [] I_TooMany dI_TooMany
  EB_TooMany : EBn K dI_TooMany "most" false
  EO_TooMany : PySem.W.findCls K (.type "OverflowError") (.type "type") "__init__" = some (.val (.builtin "OverflowError.__init__"))
  I_NoSuch : Addr
  dI_NoSuch : FuncData
  E_NoSuch : ErG K mg "LookupError" [.type "LookupError", .type "Exception", .type "BaseException", .type "object"] "LookupError.__new__" "LookupError.__init__" "NoSuch" "value" A_NoSuch I_NoSuch
  EC_NoSuch : ErC K A_NoSuch "value"
  ES_NoSuch : StC K A_NoSuch
  FI_NoSuch : FunD K "__init__" "NoSuch.__init__" (defArgs (mth 18)) (defBody (mth 18)) (defScope (mth 18)) [.non] [] I_NoSuch dI_NoSuch
  EB_NoSuch : EBn K dI_NoSuch "value" true
  EO_NoSuch : PySem.W.findCls K (.type "LookupError") (.type "type") "__init__" = some (.val (.builtin "LookupError.__init__"))
  k_BadAssumptions : kitAll K [(A_BadClaim, false), (A_BadAssumptions, true), (A_BadWorld, false), (A_BadPoint, false), (A_BadTerm, false), (A_BadPaper, false), (A_BadText, false), (A_BadNumber, false), (A_BadLetters, false), (A_BadBook, false), (A_BadForm, false), (A_BadOrder, false), (A_BadMove, false), (A_BadDeed, false), (A_BadTheory, false), (A_TooMany, false), (A_NoSuch, false)] (.ref A_BadAssumptions) = true
  k_BadBook : kitAll K [(A_BadClaim, false), (A_BadAssumptions, false), (A_BadWorld, false), (A_BadPoint, false), (A_BadTerm, false), (A_BadPaper, false), (A_BadText, false), (A_BadNumber, false), (A_BadLetters, false), (A_BadBook, true), (A_BadForm, false), (A_BadOrder, false), (A_BadMove, false), (A_BadDeed, false), (A_BadTheory, false), (A_TooMany, false), (A_NoSuch, false)] (.ref A_BadBook) = true
  k_BadClaim : kitAll K [(A_BadClaim, true), (A_BadAssumptions, false), (A_BadWorld, false), (A_BadPoint, false), (A_BadTerm, false), (A_BadPaper, false), (A_BadText, false), (A_BadNumber, false), (A_BadLetters, false), (A_BadBook, false), (A_BadForm, false), (A_BadOrder, false), (A_BadMove, false), (A_BadDeed, false), (A_BadTheory, false), (A_TooMany, false), (A_NoSuch, false)] (.ref A_BadClaim) = true
  k_BadDeed : kitAll K [(A_BadClaim, false), (A_BadAssumptions, false), (A_BadWorld, false), (A_BadPoint, false), (A_BadTerm, false), (A_BadPaper, false), (A_BadText, false), (A_BadNumber, false), (A_BadLetters, false), (A_BadBook, false), (A_BadForm, false), (A_BadOrder, false), (A_BadMove, false), (A_BadDeed, true), (A_BadTheory, false), (A_TooMany, false), (A_NoSuch, false)] (.ref A_BadDeed) = true
  k_BadForm : kitAll K [(A_BadClaim, false), (A_BadAssumptions, false), (A_BadWorld, false), (A_BadPoint, false), (A_BadTerm, false), (A_BadPaper, false), (A_BadText, false), (A_BadNumber, false), (A_BadLetters, false), (A_BadBook, false), (A_BadForm, true), (A_BadOrder, false), (A_BadMove, false), (A_BadDeed, false), (A_BadTheory, false), (A_TooMany, false), (A_NoSuch, false)] (.ref A_BadForm) = true
  k_BadLetters : kitAll K [(A_BadClaim, false), (A_BadAssumptions, false), (A_BadWorld, false), (A_BadPoint, false), (A_BadTerm, false), (A_BadPaper, false), (A_BadText, false), (A_BadNumber, false), (A_BadLetters, true), (A_BadBook, false), (A_BadForm, false), (A_BadOrder, false), (A_BadMove, false), (A_BadDeed, false), (A_BadTheory, false), (A_TooMany, false), (A_NoSuch, false)] (.ref A_BadLetters) = true
  k_BadMove : kitAll K [(A_BadClaim, false), (A_BadAssumptions, false), (A_BadWorld, false), (A_BadPoint, false), (A_BadTerm, false), (A_BadPaper, false), (A_BadText, false), (A_BadNumber, false), (A_BadLetters, false), (A_BadBook, false), (A_BadForm, false), (A_BadOrder, false), (A_BadMove, true), (A_BadDeed, false), (A_BadTheory, false), (A_TooMany, false), (A_NoSuch, false)] (.ref A_BadMove) = true
  k_BadNumber : kitAll K [(A_BadClaim, false), (A_BadAssumptions, false), (A_BadWorld, false), (A_BadPoint, false), (A_BadTerm, false), (A_BadPaper, false), (A_BadText, false), (A_BadNumber, true), (A_BadLetters, false), (A_BadBook, false), (A_BadForm, false), (A_BadOrder, false), (A_BadMove, false), (A_BadDeed, false), (A_BadTheory, false), (A_TooMany, false), (A_NoSuch, false)] (.ref A_BadNumber) = true
  k_BadOrder : kitAll K [(A_BadClaim, false), (A_BadAssumptions, false), (A_BadWorld, false), (A_BadPoint, false), (A_BadTerm, false), (A_BadPaper, false), (A_BadText, false), (A_BadNumber, false), (A_BadLetters, false), (A_BadBook, false), (A_BadForm, false), (A_BadOrder, true), (A_BadMove, false), (A_BadDeed, false), (A_BadTheory, false), (A_TooMany, false), (A_NoSuch, false)] (.ref A_BadOrder) = true
  k_BadPaper : kitAll K [(A_BadClaim, false), (A_BadAssumptions, false), (A_BadWorld, false), (A_BadPoint, false), (A_BadTerm, false), (A_BadPaper, true), (A_BadText, false), (A_BadNumber, false), (A_BadLetters, false), (A_BadBook, false), (A_BadForm, false), (A_BadOrder, false), (A_BadMove, false), (A_BadDeed, false), (A_BadTheory, false), (A_TooMany, false), (A_NoSuch, false)] (.ref A_BadPaper) = true
  k_BadPoint : kitAll K [(A_BadClaim, false), (A_BadAssumptions, false), (A_BadWorld, false), (A_BadPoint, true), (A_BadTerm, false), (A_BadPaper, false), (A_BadText, false), (A_BadNumber, false), (A_BadLetters, false), (A_BadBook, false), (A_BadForm, false), (A_BadOrder, false), (A_BadMove, false), (A_BadDeed, false), (A_BadTheory, false), (A_TooMany, false), (A_NoSuch, false)] (.ref A_BadPoint) = true
  k_BadTerm : kitAll K [(A_BadClaim, false), (A_BadAssumptions, false), (A_BadWorld, false), (A_BadPoint, false), (A_BadTerm, true), (A_BadPaper, false), (A_BadText, false), (A_BadNumber, false), (A_BadLetters, false), (A_BadBook, false), (A_BadForm, false), (A_BadOrder, false), (A_BadMove, false), (A_BadDeed, false), (A_BadTheory, false), (A_TooMany, false), (A_NoSuch, false)] (.ref A_BadTerm) = true
  k_BadText : kitAll K [(A_BadClaim, false), (A_BadAssumptions, false), (A_BadWorld, false), (A_BadPoint, false), (A_BadTerm, false), (A_BadPaper, false), (A_BadText, true), (A_BadNumber, false), (A_BadLetters, false), (A_BadBook, false), (A_BadForm, false), (A_BadOrder, false), (A_BadMove, false), (A_BadDeed, false), (A_BadTheory, false), (A_TooMany, false), (A_NoSuch, false)] (.ref A_BadText) = true
  k_BadTheory : kitAll K [(A_BadClaim, false), (A_BadAssumptions, false), (A_BadWorld, false), (A_BadPoint, false), (A_BadTerm, false), (A_BadPaper, false), (A_BadText, false), (A_BadNumber, false), (A_BadLetters, false), (A_BadBook, false), (A_BadForm, false), (A_BadOrder, false), (A_BadMove, false), (A_BadDeed, false), (A_BadTheory, true), (A_TooMany, false), (A_NoSuch, false)] (.ref A_BadTheory) = true
  k_BadWorld : kitAll K [(A_BadClaim, false), (A_BadAssumptions, false), (A_BadWorld, true), (A_BadPoint, false), (A_BadTerm, false), (A_BadPaper, false), (A_BadText, false), (A_BadNumber, false), (A_BadLetters, false), (A_BadBook, false), (A_BadForm, false), (A_BadOrder, false), (A_BadMove, false), (A_BadDeed, false), (A_BadTheory, false), (A_TooMany, false), (A_NoSuch, false)] (.ref A_BadWorld) = true
  k_LookupError : kitAll K [(A_BadClaim, false), (A_BadAssumptions, false), (A_BadWorld, false), (A_BadPoint, false), (A_BadTerm, false), (A_BadPaper, false), (A_BadText, false), (A_BadNumber, false), (A_BadLetters, false), (A_BadBook, false), (A_BadForm, false), (A_BadOrder, false), (A_BadMove, false), (A_BadDeed, false), (A_BadTheory, false), (A_TooMany, false), (A_NoSuch, true)] (.type "LookupError") = true
  k_NoSuch : kitAll K [(A_BadClaim, false), (A_BadAssumptions, false), (A_BadWorld, false), (A_BadPoint, false), (A_BadTerm, false), (A_BadPaper, false), (A_BadText, false), (A_BadNumber, false), (A_BadLetters, false), (A_BadBook, false), (A_BadForm, false), (A_BadOrder, false), (A_BadMove, false), (A_BadDeed, false), (A_BadTheory, false), (A_TooMany, false), (A_NoSuch, true)] (.ref A_NoSuch) = true
  k_OverflowError : kitAll K [(A_BadClaim, false), (A_BadAssumptions, false), (A_BadWorld, false), (A_BadPoint, false), (A_BadTerm, false), (A_BadPaper, false), (A_BadText, false), (A_BadNumber, false), (A_BadLetters, false), (A_BadBook, false), (A_BadForm, false), (A_BadOrder, false), (A_BadMove, false), (A_BadDeed, false), (A_BadTheory, false), (A_TooMany, true), (A_NoSuch, false)] (.type "OverflowError") = true
  k_ProofError : kitAll K [(A_BadClaim, true), (A_BadAssumptions, true), (A_BadWorld, true), (A_BadPoint, true), (A_BadTerm, true), (A_BadPaper, true), (A_BadText, true), (A_BadNumber, true), (A_BadLetters, true), (A_BadBook, true), (A_BadForm, true), (A_BadOrder, true), (A_BadMove, true), (A_BadDeed, true), (A_BadTheory, true), (A_TooMany, false), (A_NoSuch, false)] (.ref A_ProofError) = true
  k_TooMany : kitAll K [(A_BadClaim, false), (A_BadAssumptions, false), (A_BadWorld, false), (A_BadPoint, false), (A_BadTerm, false), (A_BadPaper, false), (A_BadText, false), (A_BadNumber, false), (A_BadLetters, false), (A_BadBook, false), (A_BadForm, false), (A_BadOrder, false), (A_BadMove, false), (A_BadDeed, false), (A_BadTheory, false), (A_TooMany, true), (A_NoSuch, false)] (.ref A_TooMany) = true
  k_ValueError : kitAll K [(A_BadClaim, true), (A_BadAssumptions, true), (A_BadWorld, true), (A_BadPoint, true), (A_BadTerm, true), (A_BadPaper, true), (A_BadText, true), (A_BadNumber, true), (A_BadLetters, true), (A_BadBook, true), (A_BadForm, true), (A_BadOrder, true), (A_BadMove, true), (A_BadDeed, true), (A_BadTheory, true), (A_TooMany, false), (A_NoSuch, false)] (.type "ValueError") = true
  a__law_mixed : Addr
  d__law_mixed : FuncData
  g__law_mixed : mg "_law_mixed" = some (.ref a__law_mixed)
  F__law_mixed : FnP K "_law_mixed" (top 20) a__law_mixed d__law_mixed
  B__law_mixed : Binds K d__law_mixed ["cell", "k"] []
  a__law_draw : Addr
  d__law_draw : FuncData
  g__law_draw : mg "_law_draw" = some (.ref a__law_draw)
  F__law_draw : FnP K "_law_draw" (top 21) a__law_draw d__law_draw
  B__law_draw : Binds K d__law_draw ["cell", "k"] []
  a__law_digit : Addr
  d__law_digit : FuncData
  g__law_digit : mg "_law_digit" = some (.ref a__law_digit)
  F__law_digit : FnP K "_law_digit" (top 22) a__law_digit d__law_digit
  B__law_digit : Binds K d__law_digit ["state", "below"] []
  a__law_kinds : Addr
  d__law_kinds : FuncData
  g__law_kinds : mg "_law_kinds" = some (.ref a__law_kinds)
  F__law_kinds : FnP K "_law_kinds" (top 23) a__law_kinds d__law_kinds
  B__law_kinds : Binds K d__law_kinds ["e"] []
  a__law_valued : Addr
  d__law_valued : FuncData
  g__law_valued : mg "_law_valued" = some (.ref a__law_valued)
  F__law_valued : FnP K "_law_valued" (top 24) a__law_valued d__law_valued
  B__law_valued : Binds K d__law_valued ["thing"] []
  a__law_placed : Addr
  d__law_placed : FuncData
  g__law_placed : mg "_law_placed" = some (.ref a__law_placed)
  F__law_placed : FnP K "_law_placed" (top 25) a__law_placed d__law_placed
  B__law_placed : Binds K d__law_placed ["thing"] []
  a__law_right : Addr
  d__law_right : FuncData
  g__law_right : mg "_law_right" = some (.ref a__law_right)
  F__law_right : FnP K "_law_right" (top 26) a__law_right d__law_right
  B__law_right : Binds K d__law_right ["thing"] []
  a_law : Addr
  d_law : FuncData
  g_law : mg "law" = some (.ref a_law)
  F_law : FnP K "law" (top 27) a_law d_law
  B_law : Binds K d_law ["script"] []
  b_LookupError : mg "LookupError" = none
  b_OverflowError : mg "OverflowError" = none
  b_ValueError : mg "ValueError" = none
  b_enumerate : mg "enumerate" = none
  b_isinstance : mg "isinstance" = none
  b_range : mg "range" = none
  b_str : mg "str" = none
  b_sum : mg "sum" = none
variable [TN] {P : Program} {w : World} {K : PySem.W.Frag} {mg : Str → Option Value} {base : Heap}
def Tx.C (T : Tx K mg) : Ctab := { c := fun c => if c = "BadClaim" then some (T.A_BadClaim, "place") else if c = "BadAssumptions" then some (T.A_BadAssumptions, "place") else if c = "BadWorld" then some (T.A_BadWorld, "place") else if c = "BadPoint" then some (T.A_BadPoint, "value") else if c = "BadTerm" then some (T.A_BadTerm, "place") else if c = "BadPaper" then some (T.A_BadPaper, "place") else if c = "BadText" then some (T.A_BadText, "place") else if c = "BadNumber" then some (T.A_BadNumber, "value") else if c = "BadLetters" then some (T.A_BadLetters, "value") else if c = "BadBook" then some (T.A_BadBook, "place") else if c = "BadForm" then some (T.A_BadForm, "place") else if c = "BadOrder" then some (T.A_BadOrder, "place") else if c = "BadMove" then some (T.A_BadMove, "place") else if c = "BadDeed" then some (T.A_BadDeed, "place") else if c = "BadTheory" then some (T.A_BadTheory, "place") else if c = "TooMany" then some (T.A_TooMany, "most") else if c = "NoSuch" then some (T.A_NoSuch, "value") else none, m := t_msg }
theorem ct_ok (T : Tx K mg) : CtOk K T.C := by
  intro c A f h
  unfold Tx.C at h; dsimp only at h
  by_cases e_BadClaim : c = "BadClaim"
  · subst e_BadClaim; simp (decide := true) at h; obtain ⟨rfl, rfl⟩ := h; exact T.EC_BadClaim
  by_cases e_BadAssumptions : c = "BadAssumptions"
  · subst e_BadAssumptions; simp (decide := true) at h; obtain ⟨rfl, rfl⟩ := h; exact T.EC_BadAssumptions
  by_cases e_BadWorld : c = "BadWorld"
  · subst e_BadWorld; simp (decide := true) at h; obtain ⟨rfl, rfl⟩ := h; exact T.EC_BadWorld
  by_cases e_BadPoint : c = "BadPoint"
  · subst e_BadPoint; simp (decide := true) at h; obtain ⟨rfl, rfl⟩ := h; exact T.EC_BadPoint
  by_cases e_BadTerm : c = "BadTerm"
  · subst e_BadTerm; simp (decide := true) at h; obtain ⟨rfl, rfl⟩ := h; exact T.EC_BadTerm
  by_cases e_BadPaper : c = "BadPaper"
  · subst e_BadPaper; simp (decide := true) at h; obtain ⟨rfl, rfl⟩ := h; exact T.EC_BadPaper
  by_cases e_BadText : c = "BadText"
  · subst e_BadText; simp (decide := true) at h; obtain ⟨rfl, rfl⟩ := h; exact T.EC_BadText
  by_cases e_BadNumber : c = "BadNumber"
  · subst e_BadNumber; simp (decide := true) at h; obtain ⟨rfl, rfl⟩ := h; exact T.EC_BadNumber
  by_cases e_BadLetters : c = "BadLetters"
  · subst e_BadLetters; simp (decide := true) at h; obtain ⟨rfl, rfl⟩ := h; exact T.EC_BadLetters
  by_cases e_BadBook : c = "BadBook"
  · subst e_BadBook; simp (decide := true) at h; obtain ⟨rfl, rfl⟩ := h; exact T.EC_BadBook
  by_cases e_BadForm : c = "BadForm"
  · subst e_BadForm; simp (decide := true) at h; obtain ⟨rfl, rfl⟩ := h; exact T.EC_BadForm
  by_cases e_BadOrder : c = "BadOrder"
  · subst e_BadOrder; simp (decide := true) at h; obtain ⟨rfl, rfl⟩ := h; exact T.EC_BadOrder
  by_cases e_BadMove : c = "BadMove"
  · subst e_BadMove; simp (decide := true) at h; obtain ⟨rfl, rfl⟩ := h; exact T.EC_BadMove
  by_cases e_BadDeed : c = "BadDeed"
  · subst e_BadDeed; simp (decide := true) at h; obtain ⟨rfl, rfl⟩ := h; exact T.EC_BadDeed
  by_cases e_BadTheory : c = "BadTheory"
  · subst e_BadTheory; simp (decide := true) at h; obtain ⟨rfl, rfl⟩ := h; exact T.EC_BadTheory
  by_cases e_TooMany : c = "TooMany"
  · subst e_TooMany; simp (decide := true) at h; obtain ⟨rfl, rfl⟩ := h; exact T.EC_TooMany
  by_cases e_NoSuch : c = "NoSuch"
  · subst e_NoSuch; simp (decide := true) at h; obtain ⟨rfl, rfl⟩ := h; exact T.EC_NoSuch
  simp (decide := true) [e_BadClaim, e_BadAssumptions, e_BadWorld, e_BadPoint, e_BadTerm, e_BadPaper, e_BadText, e_BadNumber, e_BadLetters, e_BadBook, e_BadForm, e_BadOrder, e_BadMove, e_BadDeed, e_BadTheory, e_TooMany, e_NoSuch] at h
theorem fl_ok (T : Tx K mg) (f : Str) : ∀ c, t_fld f c = true → ∃ A, T.C.c c = some (A, f) := by
  intro c h
  unfold t_fld at h; unfold Tx.C; dsimp only
  by_cases e_BadClaim : c = "BadClaim"
  · subst e_BadClaim; simp (decide := true) at h ⊢; exact h.symm
  by_cases e_BadAssumptions : c = "BadAssumptions"
  · subst e_BadAssumptions; simp (decide := true) at h ⊢; exact h.symm
  by_cases e_BadWorld : c = "BadWorld"
  · subst e_BadWorld; simp (decide := true) at h ⊢; exact h.symm
  by_cases e_BadPoint : c = "BadPoint"
  · subst e_BadPoint; simp (decide := true) at h ⊢; exact h.symm
  by_cases e_BadTerm : c = "BadTerm"
  · subst e_BadTerm; simp (decide := true) at h ⊢; exact h.symm
  by_cases e_BadPaper : c = "BadPaper"
  · subst e_BadPaper; simp (decide := true) at h ⊢; exact h.symm
  by_cases e_BadText : c = "BadText"
  · subst e_BadText; simp (decide := true) at h ⊢; exact h.symm
  by_cases e_BadNumber : c = "BadNumber"
  · subst e_BadNumber; simp (decide := true) at h ⊢; exact h.symm
  by_cases e_BadLetters : c = "BadLetters"
  · subst e_BadLetters; simp (decide := true) at h ⊢; exact h.symm
  by_cases e_BadBook : c = "BadBook"
  · subst e_BadBook; simp (decide := true) at h ⊢; exact h.symm
  by_cases e_BadForm : c = "BadForm"
  · subst e_BadForm; simp (decide := true) at h ⊢; exact h.symm
  by_cases e_BadOrder : c = "BadOrder"
  · subst e_BadOrder; simp (decide := true) at h ⊢; exact h.symm
  by_cases e_BadMove : c = "BadMove"
  · subst e_BadMove; simp (decide := true) at h ⊢; exact h.symm
  by_cases e_BadDeed : c = "BadDeed"
  · subst e_BadDeed; simp (decide := true) at h ⊢; exact h.symm
  by_cases e_BadTheory : c = "BadTheory"
  · subst e_BadTheory; simp (decide := true) at h ⊢; exact h.symm
  by_cases e_TooMany : c = "TooMany"
  · subst e_TooMany; simp (decide := true) at h ⊢; exact h.symm
  by_cases e_NoSuch : c = "NoSuch"
  · subst e_NoSuch; simp (decide := true) at h ⊢; exact h.symm
  simp (decide := true) [e_BadClaim, e_BadAssumptions, e_BadWorld, e_BadPoint, e_BadTerm, e_BadPaper, e_BadText, e_BadNumber, e_BadLetters, e_BadBook, e_BadForm, e_BadOrder, e_BadMove, e_BadDeed, e_BadTheory, e_TooMany, e_NoSuch] at h
theorem isx_BadAssumptions (T : Tx K mg) : ∀ c A f b, T.C.c c = some (A, f) → t_isx "BadAssumptions" c = some b → PySem.W.kitOne K (.ref A) (.ref T.A_BadAssumptions) = some b := by
  intro c A f b h h2
  unfold Tx.C at h; dsimp only at h; unfold t_isx at h2
  by_cases e_BadClaim : c = "BadClaim"
  · subst e_BadClaim; simp (decide := true) at h h2; obtain ⟨rfl, rfl⟩ := h; subst h2; exact kitAll_at T.k_BadAssumptions 0 rfl
  by_cases e_BadAssumptions : c = "BadAssumptions"
  · subst e_BadAssumptions; simp (decide := true) at h h2; obtain ⟨rfl, rfl⟩ := h; subst h2; exact kitAll_at T.k_BadAssumptions 1 rfl
  by_cases e_BadWorld : c = "BadWorld"
  · subst e_BadWorld; simp (decide := true) at h h2; obtain ⟨rfl, rfl⟩ := h; subst h2; exact kitAll_at T.k_BadAssumptions 2 rfl
  by_cases e_BadPoint : c = "BadPoint"
  · subst e_BadPoint; simp (decide := true) at h h2; obtain ⟨rfl, rfl⟩ := h; subst h2; exact kitAll_at T.k_BadAssumptions 3 rfl
  by_cases e_BadTerm : c = "BadTerm"
  · subst e_BadTerm; simp (decide := true) at h h2; obtain ⟨rfl, rfl⟩ := h; subst h2; exact kitAll_at T.k_BadAssumptions 4 rfl
  by_cases e_BadPaper : c = "BadPaper"
  · subst e_BadPaper; simp (decide := true) at h h2; obtain ⟨rfl, rfl⟩ := h; subst h2; exact kitAll_at T.k_BadAssumptions 5 rfl
  by_cases e_BadText : c = "BadText"
  · subst e_BadText; simp (decide := true) at h h2; obtain ⟨rfl, rfl⟩ := h; subst h2; exact kitAll_at T.k_BadAssumptions 6 rfl
  by_cases e_BadNumber : c = "BadNumber"
  · subst e_BadNumber; simp (decide := true) at h h2; obtain ⟨rfl, rfl⟩ := h; subst h2; exact kitAll_at T.k_BadAssumptions 7 rfl
  by_cases e_BadLetters : c = "BadLetters"
  · subst e_BadLetters; simp (decide := true) at h h2; obtain ⟨rfl, rfl⟩ := h; subst h2; exact kitAll_at T.k_BadAssumptions 8 rfl
  by_cases e_BadBook : c = "BadBook"
  · subst e_BadBook; simp (decide := true) at h h2; obtain ⟨rfl, rfl⟩ := h; subst h2; exact kitAll_at T.k_BadAssumptions 9 rfl
  by_cases e_BadForm : c = "BadForm"
  · subst e_BadForm; simp (decide := true) at h h2; obtain ⟨rfl, rfl⟩ := h; subst h2; exact kitAll_at T.k_BadAssumptions 10 rfl
  by_cases e_BadOrder : c = "BadOrder"
  · subst e_BadOrder; simp (decide := true) at h h2; obtain ⟨rfl, rfl⟩ := h; subst h2; exact kitAll_at T.k_BadAssumptions 11 rfl
  by_cases e_BadMove : c = "BadMove"
  · subst e_BadMove; simp (decide := true) at h h2; obtain ⟨rfl, rfl⟩ := h; subst h2; exact kitAll_at T.k_BadAssumptions 12 rfl
  by_cases e_BadDeed : c = "BadDeed"
  · subst e_BadDeed; simp (decide := true) at h h2; obtain ⟨rfl, rfl⟩ := h; subst h2; exact kitAll_at T.k_BadAssumptions 13 rfl
  by_cases e_BadTheory : c = "BadTheory"
  · subst e_BadTheory; simp (decide := true) at h h2; obtain ⟨rfl, rfl⟩ := h; subst h2; exact kitAll_at T.k_BadAssumptions 14 rfl
  by_cases e_TooMany : c = "TooMany"
  · subst e_TooMany; simp (decide := true) at h h2; obtain ⟨rfl, rfl⟩ := h; subst h2; exact kitAll_at T.k_BadAssumptions 15 rfl
  by_cases e_NoSuch : c = "NoSuch"
  · subst e_NoSuch; simp (decide := true) at h h2; obtain ⟨rfl, rfl⟩ := h; subst h2; exact kitAll_at T.k_BadAssumptions 16 rfl
  simp (decide := true) [e_BadClaim, e_BadAssumptions, e_BadWorld, e_BadPoint, e_BadTerm, e_BadPaper, e_BadText, e_BadNumber, e_BadLetters, e_BadBook, e_BadForm, e_BadOrder, e_BadMove, e_BadDeed, e_BadTheory, e_TooMany, e_NoSuch] at h
theorem isx_BadBook (T : Tx K mg) : ∀ c A f b, T.C.c c = some (A, f) → t_isx "BadBook" c = some b → PySem.W.kitOne K (.ref A) (.ref T.A_BadBook) = some b := by
  intro c A f b h h2
  unfold Tx.C at h; dsimp only at h; unfold t_isx at h2
  by_cases e_BadClaim : c = "BadClaim"
  · subst e_BadClaim; simp (decide := true) at h h2; obtain ⟨rfl, rfl⟩ := h; subst h2; exact kitAll_at T.k_BadBook 0 rfl
  by_cases e_BadAssumptions : c = "BadAssumptions"
  · subst e_BadAssumptions; simp (decide := true) at h h2; obtain ⟨rfl, rfl⟩ := h; subst h2; exact kitAll_at T.k_BadBook 1 rfl
  by_cases e_BadWorld : c = "BadWorld"
  · subst e_BadWorld; simp (decide := true) at h h2; obtain ⟨rfl, rfl⟩ := h; subst h2; exact kitAll_at T.k_BadBook 2 rfl
  by_cases e_BadPoint : c = "BadPoint"
  · subst e_BadPoint; simp (decide := true) at h h2; obtain ⟨rfl, rfl⟩ := h; subst h2; exact kitAll_at T.k_BadBook 3 rfl
  by_cases e_BadTerm : c = "BadTerm"
  · subst e_BadTerm; simp (decide := true) at h h2; obtain ⟨rfl, rfl⟩ := h; subst h2; exact kitAll_at T.k_BadBook 4 rfl
  by_cases e_BadPaper : c = "BadPaper"
  · subst e_BadPaper; simp (decide := true) at h h2; obtain ⟨rfl, rfl⟩ := h; subst h2; exact kitAll_at T.k_BadBook 5 rfl
  by_cases e_BadText : c = "BadText"
  · subst e_BadText; simp (decide := true) at h h2; obtain ⟨rfl, rfl⟩ := h; subst h2; exact kitAll_at T.k_BadBook 6 rfl
  by_cases e_BadNumber : c = "BadNumber"
  · subst e_BadNumber; simp (decide := true) at h h2; obtain ⟨rfl, rfl⟩ := h; subst h2; exact kitAll_at T.k_BadBook 7 rfl
  by_cases e_BadLetters : c = "BadLetters"
  · subst e_BadLetters; simp (decide := true) at h h2; obtain ⟨rfl, rfl⟩ := h; subst h2; exact kitAll_at T.k_BadBook 8 rfl
  by_cases e_BadBook : c = "BadBook"
  · subst e_BadBook; simp (decide := true) at h h2; obtain ⟨rfl, rfl⟩ := h; subst h2; exact kitAll_at T.k_BadBook 9 rfl
  by_cases e_BadForm : c = "BadForm"
  · subst e_BadForm; simp (decide := true) at h h2; obtain ⟨rfl, rfl⟩ := h; subst h2; exact kitAll_at T.k_BadBook 10 rfl
  by_cases e_BadOrder : c = "BadOrder"
  · subst e_BadOrder; simp (decide := true) at h h2; obtain ⟨rfl, rfl⟩ := h; subst h2; exact kitAll_at T.k_BadBook 11 rfl
  by_cases e_BadMove : c = "BadMove"
  · subst e_BadMove; simp (decide := true) at h h2; obtain ⟨rfl, rfl⟩ := h; subst h2; exact kitAll_at T.k_BadBook 12 rfl
  by_cases e_BadDeed : c = "BadDeed"
  · subst e_BadDeed; simp (decide := true) at h h2; obtain ⟨rfl, rfl⟩ := h; subst h2; exact kitAll_at T.k_BadBook 13 rfl
  by_cases e_BadTheory : c = "BadTheory"
  · subst e_BadTheory; simp (decide := true) at h h2; obtain ⟨rfl, rfl⟩ := h; subst h2; exact kitAll_at T.k_BadBook 14 rfl
  by_cases e_TooMany : c = "TooMany"
  · subst e_TooMany; simp (decide := true) at h h2; obtain ⟨rfl, rfl⟩ := h; subst h2; exact kitAll_at T.k_BadBook 15 rfl
  by_cases e_NoSuch : c = "NoSuch"
  · subst e_NoSuch; simp (decide := true) at h h2; obtain ⟨rfl, rfl⟩ := h; subst h2; exact kitAll_at T.k_BadBook 16 rfl
  simp (decide := true) [e_BadClaim, e_BadAssumptions, e_BadWorld, e_BadPoint, e_BadTerm, e_BadPaper, e_BadText, e_BadNumber, e_BadLetters, e_BadBook, e_BadForm, e_BadOrder, e_BadMove, e_BadDeed, e_BadTheory, e_TooMany, e_NoSuch] at h
theorem isx_BadClaim (T : Tx K mg) : ∀ c A f b, T.C.c c = some (A, f) → t_isx "BadClaim" c = some b → PySem.W.kitOne K (.ref A) (.ref T.A_BadClaim) = some b := by
  intro c A f b h h2
  unfold Tx.C at h; dsimp only at h; unfold t_isx at h2
  by_cases e_BadClaim : c = "BadClaim"
  · subst e_BadClaim; simp (decide := true) at h h2; obtain ⟨rfl, rfl⟩ := h; subst h2; exact kitAll_at T.k_BadClaim 0 rfl
  by_cases e_BadAssumptions : c = "BadAssumptions"
  · subst e_BadAssumptions; simp (decide := true) at h h2; obtain ⟨rfl, rfl⟩ := h; subst h2; exact kitAll_at T.k_BadClaim 1 rfl
  by_cases e_BadWorld : c = "BadWorld"
  · subst e_BadWorld; simp (decide := true) at h h2; obtain ⟨rfl, rfl⟩ := h; subst h2; exact kitAll_at T.k_BadClaim 2 rfl
  by_cases e_BadPoint : c = "BadPoint"
  · subst e_BadPoint; simp (decide := true) at h h2; obtain ⟨rfl, rfl⟩ := h; subst h2; exact kitAll_at T.k_BadClaim 3 rfl
  by_cases e_BadTerm : c = "BadTerm"
  · subst e_BadTerm; simp (decide := true) at h h2; obtain ⟨rfl, rfl⟩ := h; subst h2; exact kitAll_at T.k_BadClaim 4 rfl
  by_cases e_BadPaper : c = "BadPaper"
  · subst e_BadPaper; simp (decide := true) at h h2; obtain ⟨rfl, rfl⟩ := h; subst h2; exact kitAll_at T.k_BadClaim 5 rfl
  by_cases e_BadText : c = "BadText"
  · subst e_BadText; simp (decide := true) at h h2; obtain ⟨rfl, rfl⟩ := h; subst h2; exact kitAll_at T.k_BadClaim 6 rfl
  by_cases e_BadNumber : c = "BadNumber"
  · subst e_BadNumber; simp (decide := true) at h h2; obtain ⟨rfl, rfl⟩ := h; subst h2; exact kitAll_at T.k_BadClaim 7 rfl
  by_cases e_BadLetters : c = "BadLetters"
  · subst e_BadLetters; simp (decide := true) at h h2; obtain ⟨rfl, rfl⟩ := h; subst h2; exact kitAll_at T.k_BadClaim 8 rfl
  by_cases e_BadBook : c = "BadBook"
  · subst e_BadBook; simp (decide := true) at h h2; obtain ⟨rfl, rfl⟩ := h; subst h2; exact kitAll_at T.k_BadClaim 9 rfl
  by_cases e_BadForm : c = "BadForm"
  · subst e_BadForm; simp (decide := true) at h h2; obtain ⟨rfl, rfl⟩ := h; subst h2; exact kitAll_at T.k_BadClaim 10 rfl
  by_cases e_BadOrder : c = "BadOrder"
  · subst e_BadOrder; simp (decide := true) at h h2; obtain ⟨rfl, rfl⟩ := h; subst h2; exact kitAll_at T.k_BadClaim 11 rfl
  by_cases e_BadMove : c = "BadMove"
  · subst e_BadMove; simp (decide := true) at h h2; obtain ⟨rfl, rfl⟩ := h; subst h2; exact kitAll_at T.k_BadClaim 12 rfl
  by_cases e_BadDeed : c = "BadDeed"
  · subst e_BadDeed; simp (decide := true) at h h2; obtain ⟨rfl, rfl⟩ := h; subst h2; exact kitAll_at T.k_BadClaim 13 rfl
  by_cases e_BadTheory : c = "BadTheory"
  · subst e_BadTheory; simp (decide := true) at h h2; obtain ⟨rfl, rfl⟩ := h; subst h2; exact kitAll_at T.k_BadClaim 14 rfl
  by_cases e_TooMany : c = "TooMany"
  · subst e_TooMany; simp (decide := true) at h h2; obtain ⟨rfl, rfl⟩ := h; subst h2; exact kitAll_at T.k_BadClaim 15 rfl
  by_cases e_NoSuch : c = "NoSuch"
  · subst e_NoSuch; simp (decide := true) at h h2; obtain ⟨rfl, rfl⟩ := h; subst h2; exact kitAll_at T.k_BadClaim 16 rfl
  simp (decide := true) [e_BadClaim, e_BadAssumptions, e_BadWorld, e_BadPoint, e_BadTerm, e_BadPaper, e_BadText, e_BadNumber, e_BadLetters, e_BadBook, e_BadForm, e_BadOrder, e_BadMove, e_BadDeed, e_BadTheory, e_TooMany, e_NoSuch] at h
theorem isx_BadDeed (T : Tx K mg) : ∀ c A f b, T.C.c c = some (A, f) → t_isx "BadDeed" c = some b → PySem.W.kitOne K (.ref A) (.ref T.A_BadDeed) = some b := by
  intro c A f b h h2
  unfold Tx.C at h; dsimp only at h; unfold t_isx at h2
  by_cases e_BadClaim : c = "BadClaim"
  · subst e_BadClaim; simp (decide := true) at h h2; obtain ⟨rfl, rfl⟩ := h; subst h2; exact kitAll_at T.k_BadDeed 0 rfl
  by_cases e_BadAssumptions : c = "BadAssumptions"
  · subst e_BadAssumptions; simp (decide := true) at h h2; obtain ⟨rfl, rfl⟩ := h; subst h2; exact kitAll_at T.k_BadDeed 1 rfl
  by_cases e_BadWorld : c = "BadWorld"
  · subst e_BadWorld; simp (decide := true) at h h2; obtain ⟨rfl, rfl⟩ := h; subst h2; exact kitAll_at T.k_BadDeed 2 rfl
  by_cases e_BadPoint : c = "BadPoint"
  · subst e_BadPoint; simp (decide := true) at h h2; obtain ⟨rfl, rfl⟩ := h; subst h2; exact kitAll_at T.k_BadDeed 3 rfl
  by_cases e_BadTerm : c = "BadTerm"
  · subst e_BadTerm; simp (decide := true) at h h2; obtain ⟨rfl, rfl⟩ := h; subst h2; exact kitAll_at T.k_BadDeed 4 rfl
  by_cases e_BadPaper : c = "BadPaper"
  · subst e_BadPaper; simp (decide := true) at h h2; obtain ⟨rfl, rfl⟩ := h; subst h2; exact kitAll_at T.k_BadDeed 5 rfl
  by_cases e_BadText : c = "BadText"
  · subst e_BadText; simp (decide := true) at h h2; obtain ⟨rfl, rfl⟩ := h; subst h2; exact kitAll_at T.k_BadDeed 6 rfl
  by_cases e_BadNumber : c = "BadNumber"
  · subst e_BadNumber; simp (decide := true) at h h2; obtain ⟨rfl, rfl⟩ := h; subst h2; exact kitAll_at T.k_BadDeed 7 rfl
  by_cases e_BadLetters : c = "BadLetters"
  · subst e_BadLetters; simp (decide := true) at h h2; obtain ⟨rfl, rfl⟩ := h; subst h2; exact kitAll_at T.k_BadDeed 8 rfl
  by_cases e_BadBook : c = "BadBook"
  · subst e_BadBook; simp (decide := true) at h h2; obtain ⟨rfl, rfl⟩ := h; subst h2; exact kitAll_at T.k_BadDeed 9 rfl
  by_cases e_BadForm : c = "BadForm"
  · subst e_BadForm; simp (decide := true) at h h2; obtain ⟨rfl, rfl⟩ := h; subst h2; exact kitAll_at T.k_BadDeed 10 rfl
  by_cases e_BadOrder : c = "BadOrder"
  · subst e_BadOrder; simp (decide := true) at h h2; obtain ⟨rfl, rfl⟩ := h; subst h2; exact kitAll_at T.k_BadDeed 11 rfl
  by_cases e_BadMove : c = "BadMove"
  · subst e_BadMove; simp (decide := true) at h h2; obtain ⟨rfl, rfl⟩ := h; subst h2; exact kitAll_at T.k_BadDeed 12 rfl
  by_cases e_BadDeed : c = "BadDeed"
  · subst e_BadDeed; simp (decide := true) at h h2; obtain ⟨rfl, rfl⟩ := h; subst h2; exact kitAll_at T.k_BadDeed 13 rfl
  by_cases e_BadTheory : c = "BadTheory"
  · subst e_BadTheory; simp (decide := true) at h h2; obtain ⟨rfl, rfl⟩ := h; subst h2; exact kitAll_at T.k_BadDeed 14 rfl
  by_cases e_TooMany : c = "TooMany"
  · subst e_TooMany; simp (decide := true) at h h2; obtain ⟨rfl, rfl⟩ := h; subst h2; exact kitAll_at T.k_BadDeed 15 rfl
  by_cases e_NoSuch : c = "NoSuch"
  · subst e_NoSuch; simp (decide := true) at h h2; obtain ⟨rfl, rfl⟩ := h; subst h2; exact kitAll_at T.k_BadDeed 16 rfl
  simp (decide := true) [e_BadClaim, e_BadAssumptions, e_BadWorld, e_BadPoint, e_BadTerm, e_BadPaper, e_BadText, e_BadNumber, e_BadLetters, e_BadBook, e_BadForm, e_BadOrder, e_BadMove, e_BadDeed, e_BadTheory, e_TooMany, e_NoSuch] at h
theorem isx_BadForm (T : Tx K mg) : ∀ c A f b, T.C.c c = some (A, f) → t_isx "BadForm" c = some b → PySem.W.kitOne K (.ref A) (.ref T.A_BadForm) = some b := by
  intro c A f b h h2
  unfold Tx.C at h; dsimp only at h; unfold t_isx at h2
  by_cases e_BadClaim : c = "BadClaim"
  · subst e_BadClaim; simp (decide := true) at h h2; obtain ⟨rfl, rfl⟩ := h; subst h2; exact kitAll_at T.k_BadForm 0 rfl
  by_cases e_BadAssumptions : c = "BadAssumptions"
  · subst e_BadAssumptions; simp (decide := true) at h h2; obtain ⟨rfl, rfl⟩ := h; subst h2; exact kitAll_at T.k_BadForm 1 rfl
  by_cases e_BadWorld : c = "BadWorld"
  · subst e_BadWorld; simp (decide := true) at h h2; obtain ⟨rfl, rfl⟩ := h; subst h2; exact kitAll_at T.k_BadForm 2 rfl
  by_cases e_BadPoint : c = "BadPoint"
  · subst e_BadPoint; simp (decide := true) at h h2; obtain ⟨rfl, rfl⟩ := h; subst h2; exact kitAll_at T.k_BadForm 3 rfl
  by_cases e_BadTerm : c = "BadTerm"
  · subst e_BadTerm; simp (decide := true) at h h2; obtain ⟨rfl, rfl⟩ := h; subst h2; exact kitAll_at T.k_BadForm 4 rfl
  by_cases e_BadPaper : c = "BadPaper"
  · subst e_BadPaper; simp (decide := true) at h h2; obtain ⟨rfl, rfl⟩ := h; subst h2; exact kitAll_at T.k_BadForm 5 rfl
  by_cases e_BadText : c = "BadText"
  · subst e_BadText; simp (decide := true) at h h2; obtain ⟨rfl, rfl⟩ := h; subst h2; exact kitAll_at T.k_BadForm 6 rfl
  by_cases e_BadNumber : c = "BadNumber"
  · subst e_BadNumber; simp (decide := true) at h h2; obtain ⟨rfl, rfl⟩ := h; subst h2; exact kitAll_at T.k_BadForm 7 rfl
  by_cases e_BadLetters : c = "BadLetters"
  · subst e_BadLetters; simp (decide := true) at h h2; obtain ⟨rfl, rfl⟩ := h; subst h2; exact kitAll_at T.k_BadForm 8 rfl
  by_cases e_BadBook : c = "BadBook"
  · subst e_BadBook; simp (decide := true) at h h2; obtain ⟨rfl, rfl⟩ := h; subst h2; exact kitAll_at T.k_BadForm 9 rfl
  by_cases e_BadForm : c = "BadForm"
  · subst e_BadForm; simp (decide := true) at h h2; obtain ⟨rfl, rfl⟩ := h; subst h2; exact kitAll_at T.k_BadForm 10 rfl
  by_cases e_BadOrder : c = "BadOrder"
  · subst e_BadOrder; simp (decide := true) at h h2; obtain ⟨rfl, rfl⟩ := h; subst h2; exact kitAll_at T.k_BadForm 11 rfl
  by_cases e_BadMove : c = "BadMove"
  · subst e_BadMove; simp (decide := true) at h h2; obtain ⟨rfl, rfl⟩ := h; subst h2; exact kitAll_at T.k_BadForm 12 rfl
  by_cases e_BadDeed : c = "BadDeed"
  · subst e_BadDeed; simp (decide := true) at h h2; obtain ⟨rfl, rfl⟩ := h; subst h2; exact kitAll_at T.k_BadForm 13 rfl
  by_cases e_BadTheory : c = "BadTheory"
  · subst e_BadTheory; simp (decide := true) at h h2; obtain ⟨rfl, rfl⟩ := h; subst h2; exact kitAll_at T.k_BadForm 14 rfl
  by_cases e_TooMany : c = "TooMany"
  · subst e_TooMany; simp (decide := true) at h h2; obtain ⟨rfl, rfl⟩ := h; subst h2; exact kitAll_at T.k_BadForm 15 rfl
  by_cases e_NoSuch : c = "NoSuch"
  · subst e_NoSuch; simp (decide := true) at h h2; obtain ⟨rfl, rfl⟩ := h; subst h2; exact kitAll_at T.k_BadForm 16 rfl
  simp (decide := true) [e_BadClaim, e_BadAssumptions, e_BadWorld, e_BadPoint, e_BadTerm, e_BadPaper, e_BadText, e_BadNumber, e_BadLetters, e_BadBook, e_BadForm, e_BadOrder, e_BadMove, e_BadDeed, e_BadTheory, e_TooMany, e_NoSuch] at h
theorem isx_BadLetters (T : Tx K mg) : ∀ c A f b, T.C.c c = some (A, f) → t_isx "BadLetters" c = some b → PySem.W.kitOne K (.ref A) (.ref T.A_BadLetters) = some b := by
  intro c A f b h h2
  unfold Tx.C at h; dsimp only at h; unfold t_isx at h2
  by_cases e_BadClaim : c = "BadClaim"
  · subst e_BadClaim; simp (decide := true) at h h2; obtain ⟨rfl, rfl⟩ := h; subst h2; exact kitAll_at T.k_BadLetters 0 rfl
  by_cases e_BadAssumptions : c = "BadAssumptions"
  · subst e_BadAssumptions; simp (decide := true) at h h2; obtain ⟨rfl, rfl⟩ := h; subst h2; exact kitAll_at T.k_BadLetters 1 rfl
  by_cases e_BadWorld : c = "BadWorld"
  · subst e_BadWorld; simp (decide := true) at h h2; obtain ⟨rfl, rfl⟩ := h; subst h2; exact kitAll_at T.k_BadLetters 2 rfl
  by_cases e_BadPoint : c = "BadPoint"
  · subst e_BadPoint; simp (decide := true) at h h2; obtain ⟨rfl, rfl⟩ := h; subst h2; exact kitAll_at T.k_BadLetters 3 rfl
  by_cases e_BadTerm : c = "BadTerm"
  · subst e_BadTerm; simp (decide := true) at h h2; obtain ⟨rfl, rfl⟩ := h; subst h2; exact kitAll_at T.k_BadLetters 4 rfl
  by_cases e_BadPaper : c = "BadPaper"
  · subst e_BadPaper; simp (decide := true) at h h2; obtain ⟨rfl, rfl⟩ := h; subst h2; exact kitAll_at T.k_BadLetters 5 rfl
  by_cases e_BadText : c = "BadText"
  · subst e_BadText; simp (decide := true) at h h2; obtain ⟨rfl, rfl⟩ := h; subst h2; exact kitAll_at T.k_BadLetters 6 rfl
  by_cases e_BadNumber : c = "BadNumber"
  · subst e_BadNumber; simp (decide := true) at h h2; obtain ⟨rfl, rfl⟩ := h; subst h2; exact kitAll_at T.k_BadLetters 7 rfl
  by_cases e_BadLetters : c = "BadLetters"
  · subst e_BadLetters; simp (decide := true) at h h2; obtain ⟨rfl, rfl⟩ := h; subst h2; exact kitAll_at T.k_BadLetters 8 rfl
  by_cases e_BadBook : c = "BadBook"
  · subst e_BadBook; simp (decide := true) at h h2; obtain ⟨rfl, rfl⟩ := h; subst h2; exact kitAll_at T.k_BadLetters 9 rfl
  by_cases e_BadForm : c = "BadForm"
  · subst e_BadForm; simp (decide := true) at h h2; obtain ⟨rfl, rfl⟩ := h; subst h2; exact kitAll_at T.k_BadLetters 10 rfl
  by_cases e_BadOrder : c = "BadOrder"
  · subst e_BadOrder; simp (decide := true) at h h2; obtain ⟨rfl, rfl⟩ := h; subst h2; exact kitAll_at T.k_BadLetters 11 rfl
  by_cases e_BadMove : c = "BadMove"
  · subst e_BadMove; simp (decide := true) at h h2; obtain ⟨rfl, rfl⟩ := h; subst h2; exact kitAll_at T.k_BadLetters 12 rfl
  by_cases e_BadDeed : c = "BadDeed"
  · subst e_BadDeed; simp (decide := true) at h h2; obtain ⟨rfl, rfl⟩ := h; subst h2; exact kitAll_at T.k_BadLetters 13 rfl
  by_cases e_BadTheory : c = "BadTheory"
  · subst e_BadTheory; simp (decide := true) at h h2; obtain ⟨rfl, rfl⟩ := h; subst h2; exact kitAll_at T.k_BadLetters 14 rfl
  by_cases e_TooMany : c = "TooMany"
  · subst e_TooMany; simp (decide := true) at h h2; obtain ⟨rfl, rfl⟩ := h; subst h2; exact kitAll_at T.k_BadLetters 15 rfl
  by_cases e_NoSuch : c = "NoSuch"
  · subst e_NoSuch; simp (decide := true) at h h2; obtain ⟨rfl, rfl⟩ := h; subst h2; exact kitAll_at T.k_BadLetters 16 rfl
  simp (decide := true) [e_BadClaim, e_BadAssumptions, e_BadWorld, e_BadPoint, e_BadTerm, e_BadPaper, e_BadText, e_BadNumber, e_BadLetters, e_BadBook, e_BadForm, e_BadOrder, e_BadMove, e_BadDeed, e_BadTheory, e_TooMany, e_NoSuch] at h
theorem isx_BadMove (T : Tx K mg) : ∀ c A f b, T.C.c c = some (A, f) → t_isx "BadMove" c = some b → PySem.W.kitOne K (.ref A) (.ref T.A_BadMove) = some b := by
  intro c A f b h h2
  unfold Tx.C at h; dsimp only at h; unfold t_isx at h2
  by_cases e_BadClaim : c = "BadClaim"
  · subst e_BadClaim; simp (decide := true) at h h2; obtain ⟨rfl, rfl⟩ := h; subst h2; exact kitAll_at T.k_BadMove 0 rfl
  by_cases e_BadAssumptions : c = "BadAssumptions"
  · subst e_BadAssumptions; simp (decide := true) at h h2; obtain ⟨rfl, rfl⟩ := h; subst h2; exact kitAll_at T.k_BadMove 1 rfl
  by_cases e_BadWorld : c = "BadWorld"
  · subst e_BadWorld; simp (decide := true) at h h2; obtain ⟨rfl, rfl⟩ := h; subst h2; exact kitAll_at T.k_BadMove 2 rfl
  by_cases e_BadPoint : c = "BadPoint"
  · subst e_BadPoint; simp (decide := true) at h h2; obtain ⟨rfl, rfl⟩ := h; subst h2; exact kitAll_at T.k_BadMove 3 rfl
  by_cases e_BadTerm : c = "BadTerm"
  · subst e_BadTerm; simp (decide := true) at h h2; obtain ⟨rfl, rfl⟩ := h; subst h2; exact kitAll_at T.k_BadMove 4 rfl
  by_cases e_BadPaper : c = "BadPaper"
  · subst e_BadPaper; simp (decide := true) at h h2; obtain ⟨rfl, rfl⟩ := h; subst h2; exact kitAll_at T.k_BadMove 5 rfl
  by_cases e_BadText : c = "BadText"
  · subst e_BadText; simp (decide := true) at h h2; obtain ⟨rfl, rfl⟩ := h; subst h2; exact kitAll_at T.k_BadMove 6 rfl
  by_cases e_BadNumber : c = "BadNumber"
  · subst e_BadNumber; simp (decide := true) at h h2; obtain ⟨rfl, rfl⟩ := h; subst h2; exact kitAll_at T.k_BadMove 7 rfl
  by_cases e_BadLetters : c = "BadLetters"
  · subst e_BadLetters; simp (decide := true) at h h2; obtain ⟨rfl, rfl⟩ := h; subst h2; exact kitAll_at T.k_BadMove 8 rfl
  by_cases e_BadBook : c = "BadBook"
  · subst e_BadBook; simp (decide := true) at h h2; obtain ⟨rfl, rfl⟩ := h; subst h2; exact kitAll_at T.k_BadMove 9 rfl
  by_cases e_BadForm : c = "BadForm"
  · subst e_BadForm; simp (decide := true) at h h2; obtain ⟨rfl, rfl⟩ := h; subst h2; exact kitAll_at T.k_BadMove 10 rfl
  by_cases e_BadOrder : c = "BadOrder"
  · subst e_BadOrder; simp (decide := true) at h h2; obtain ⟨rfl, rfl⟩ := h; subst h2; exact kitAll_at T.k_BadMove 11 rfl
  by_cases e_BadMove : c = "BadMove"
  · subst e_BadMove; simp (decide := true) at h h2; obtain ⟨rfl, rfl⟩ := h; subst h2; exact kitAll_at T.k_BadMove 12 rfl
  by_cases e_BadDeed : c = "BadDeed"
  · subst e_BadDeed; simp (decide := true) at h h2; obtain ⟨rfl, rfl⟩ := h; subst h2; exact kitAll_at T.k_BadMove 13 rfl
  by_cases e_BadTheory : c = "BadTheory"
  · subst e_BadTheory; simp (decide := true) at h h2; obtain ⟨rfl, rfl⟩ := h; subst h2; exact kitAll_at T.k_BadMove 14 rfl
  by_cases e_TooMany : c = "TooMany"
  · subst e_TooMany; simp (decide := true) at h h2; obtain ⟨rfl, rfl⟩ := h; subst h2; exact kitAll_at T.k_BadMove 15 rfl
  by_cases e_NoSuch : c = "NoSuch"
  · subst e_NoSuch; simp (decide := true) at h h2; obtain ⟨rfl, rfl⟩ := h; subst h2; exact kitAll_at T.k_BadMove 16 rfl
  simp (decide := true) [e_BadClaim, e_BadAssumptions, e_BadWorld, e_BadPoint, e_BadTerm, e_BadPaper, e_BadText, e_BadNumber, e_BadLetters, e_BadBook, e_BadForm, e_BadOrder, e_BadMove, e_BadDeed, e_BadTheory, e_TooMany, e_NoSuch] at h
theorem isx_BadNumber (T : Tx K mg) : ∀ c A f b, T.C.c c = some (A, f) → t_isx "BadNumber" c = some b → PySem.W.kitOne K (.ref A) (.ref T.A_BadNumber) = some b := by
  intro c A f b h h2
  unfold Tx.C at h; dsimp only at h; unfold t_isx at h2
  by_cases e_BadClaim : c = "BadClaim"
  · subst e_BadClaim; simp (decide := true) at h h2; obtain ⟨rfl, rfl⟩ := h; subst h2; exact kitAll_at T.k_BadNumber 0 rfl
  by_cases e_BadAssumptions : c = "BadAssumptions"
  · subst e_BadAssumptions; simp (decide := true) at h h2; obtain ⟨rfl, rfl⟩ := h; subst h2; exact kitAll_at T.k_BadNumber 1 rfl
  by_cases e_BadWorld : c = "BadWorld"
  · subst e_BadWorld; simp (decide := true) at h h2; obtain ⟨rfl, rfl⟩ := h; subst h2; exact kitAll_at T.k_BadNumber 2 rfl
  by_cases e_BadPoint : c = "BadPoint"
  · subst e_BadPoint; simp (decide := true) at h h2; obtain ⟨rfl, rfl⟩ := h; subst h2; exact kitAll_at T.k_BadNumber 3 rfl
  by_cases e_BadTerm : c = "BadTerm"
  · subst e_BadTerm; simp (decide := true) at h h2; obtain ⟨rfl, rfl⟩ := h; subst h2; exact kitAll_at T.k_BadNumber 4 rfl
  by_cases e_BadPaper : c = "BadPaper"
  · subst e_BadPaper; simp (decide := true) at h h2; obtain ⟨rfl, rfl⟩ := h; subst h2; exact kitAll_at T.k_BadNumber 5 rfl
  by_cases e_BadText : c = "BadText"
  · subst e_BadText; simp (decide := true) at h h2; obtain ⟨rfl, rfl⟩ := h; subst h2; exact kitAll_at T.k_BadNumber 6 rfl
  by_cases e_BadNumber : c = "BadNumber"
  · subst e_BadNumber; simp (decide := true) at h h2; obtain ⟨rfl, rfl⟩ := h; subst h2; exact kitAll_at T.k_BadNumber 7 rfl
  by_cases e_BadLetters : c = "BadLetters"
  · subst e_BadLetters; simp (decide := true) at h h2; obtain ⟨rfl, rfl⟩ := h; subst h2; exact kitAll_at T.k_BadNumber 8 rfl
  by_cases e_BadBook : c = "BadBook"
  · subst e_BadBook; simp (decide := true) at h h2; obtain ⟨rfl, rfl⟩ := h; subst h2; exact kitAll_at T.k_BadNumber 9 rfl
  by_cases e_BadForm : c = "BadForm"
  · subst e_BadForm; simp (decide := true) at h h2; obtain ⟨rfl, rfl⟩ := h; subst h2; exact kitAll_at T.k_BadNumber 10 rfl
  by_cases e_BadOrder : c = "BadOrder"
  · subst e_BadOrder; simp (decide := true) at h h2; obtain ⟨rfl, rfl⟩ := h; subst h2; exact kitAll_at T.k_BadNumber 11 rfl
  by_cases e_BadMove : c = "BadMove"
  · subst e_BadMove; simp (decide := true) at h h2; obtain ⟨rfl, rfl⟩ := h; subst h2; exact kitAll_at T.k_BadNumber 12 rfl
  by_cases e_BadDeed : c = "BadDeed"
  · subst e_BadDeed; simp (decide := true) at h h2; obtain ⟨rfl, rfl⟩ := h; subst h2; exact kitAll_at T.k_BadNumber 13 rfl
  by_cases e_BadTheory : c = "BadTheory"
  · subst e_BadTheory; simp (decide := true) at h h2; obtain ⟨rfl, rfl⟩ := h; subst h2; exact kitAll_at T.k_BadNumber 14 rfl
  by_cases e_TooMany : c = "TooMany"
  · subst e_TooMany; simp (decide := true) at h h2; obtain ⟨rfl, rfl⟩ := h; subst h2; exact kitAll_at T.k_BadNumber 15 rfl
  by_cases e_NoSuch : c = "NoSuch"
  · subst e_NoSuch; simp (decide := true) at h h2; obtain ⟨rfl, rfl⟩ := h; subst h2; exact kitAll_at T.k_BadNumber 16 rfl
  simp (decide := true) [e_BadClaim, e_BadAssumptions, e_BadWorld, e_BadPoint, e_BadTerm, e_BadPaper, e_BadText, e_BadNumber, e_BadLetters, e_BadBook, e_BadForm, e_BadOrder, e_BadMove, e_BadDeed, e_BadTheory, e_TooMany, e_NoSuch] at h
theorem isx_BadOrder (T : Tx K mg) : ∀ c A f b, T.C.c c = some (A, f) → t_isx "BadOrder" c = some b → PySem.W.kitOne K (.ref A) (.ref T.A_BadOrder) = some b := by
  intro c A f b h h2
  unfold Tx.C at h; dsimp only at h; unfold t_isx at h2
  by_cases e_BadClaim : c = "BadClaim"
  · subst e_BadClaim; simp (decide := true) at h h2; obtain ⟨rfl, rfl⟩ := h; subst h2; exact kitAll_at T.k_BadOrder 0 rfl
  by_cases e_BadAssumptions : c = "BadAssumptions"
  · subst e_BadAssumptions; simp (decide := true) at h h2; obtain ⟨rfl, rfl⟩ := h; subst h2; exact kitAll_at T.k_BadOrder 1 rfl
  by_cases e_BadWorld : c = "BadWorld"
  · subst e_BadWorld; simp (decide := true) at h h2; obtain ⟨rfl, rfl⟩ := h; subst h2; exact kitAll_at T.k_BadOrder 2 rfl
  by_cases e_BadPoint : c = "BadPoint"
  · subst e_BadPoint; simp (decide := true) at h h2; obtain ⟨rfl, rfl⟩ := h; subst h2; exact kitAll_at T.k_BadOrder 3 rfl
  by_cases e_BadTerm : c = "BadTerm"
  · subst e_BadTerm; simp (decide := true) at h h2; obtain ⟨rfl, rfl⟩ := h; subst h2; exact kitAll_at T.k_BadOrder 4 rfl
  by_cases e_BadPaper : c = "BadPaper"
  · subst e_BadPaper; simp (decide := true) at h h2; obtain ⟨rfl, rfl⟩ := h; subst h2; exact kitAll_at T.k_BadOrder 5 rfl
  by_cases e_BadText : c = "BadText"
  · subst e_BadText; simp (decide := true) at h h2; obtain ⟨rfl, rfl⟩ := h; subst h2; exact kitAll_at T.k_BadOrder 6 rfl
  by_cases e_BadNumber : c = "BadNumber"
  · subst e_BadNumber; simp (decide := true) at h h2; obtain ⟨rfl, rfl⟩ := h; subst h2; exact kitAll_at T.k_BadOrder 7 rfl
  by_cases e_BadLetters : c = "BadLetters"
  · subst e_BadLetters; simp (decide := true) at h h2; obtain ⟨rfl, rfl⟩ := h; subst h2; exact kitAll_at T.k_BadOrder 8 rfl
  by_cases e_BadBook : c = "BadBook"
  · subst e_BadBook; simp (decide := true) at h h2; obtain ⟨rfl, rfl⟩ := h; subst h2; exact kitAll_at T.k_BadOrder 9 rfl
  by_cases e_BadForm : c = "BadForm"
  · subst e_BadForm; simp (decide := true) at h h2; obtain ⟨rfl, rfl⟩ := h; subst h2; exact kitAll_at T.k_BadOrder 10 rfl
  by_cases e_BadOrder : c = "BadOrder"
  · subst e_BadOrder; simp (decide := true) at h h2; obtain ⟨rfl, rfl⟩ := h; subst h2; exact kitAll_at T.k_BadOrder 11 rfl
  by_cases e_BadMove : c = "BadMove"
  · subst e_BadMove; simp (decide := true) at h h2; obtain ⟨rfl, rfl⟩ := h; subst h2; exact kitAll_at T.k_BadOrder 12 rfl
  by_cases e_BadDeed : c = "BadDeed"
  · subst e_BadDeed; simp (decide := true) at h h2; obtain ⟨rfl, rfl⟩ := h; subst h2; exact kitAll_at T.k_BadOrder 13 rfl
  by_cases e_BadTheory : c = "BadTheory"
  · subst e_BadTheory; simp (decide := true) at h h2; obtain ⟨rfl, rfl⟩ := h; subst h2; exact kitAll_at T.k_BadOrder 14 rfl
  by_cases e_TooMany : c = "TooMany"
  · subst e_TooMany; simp (decide := true) at h h2; obtain ⟨rfl, rfl⟩ := h; subst h2; exact kitAll_at T.k_BadOrder 15 rfl
  by_cases e_NoSuch : c = "NoSuch"
  · subst e_NoSuch; simp (decide := true) at h h2; obtain ⟨rfl, rfl⟩ := h; subst h2; exact kitAll_at T.k_BadOrder 16 rfl
  simp (decide := true) [e_BadClaim, e_BadAssumptions, e_BadWorld, e_BadPoint, e_BadTerm, e_BadPaper, e_BadText, e_BadNumber, e_BadLetters, e_BadBook, e_BadForm, e_BadOrder, e_BadMove, e_BadDeed, e_BadTheory, e_TooMany, e_NoSuch] at h
theorem isx_BadPaper (T : Tx K mg) : ∀ c A f b, T.C.c c = some (A, f) → t_isx "BadPaper" c = some b → PySem.W.kitOne K (.ref A) (.ref T.A_BadPaper) = some b := by
  intro c A f b h h2
  unfold Tx.C at h; dsimp only at h; unfold t_isx at h2
  by_cases e_BadClaim : c = "BadClaim"
  · subst e_BadClaim; simp (decide := true) at h h2; obtain ⟨rfl, rfl⟩ := h; subst h2; exact kitAll_at T.k_BadPaper 0 rfl
  by_cases e_BadAssumptions : c = "BadAssumptions"
  · subst e_BadAssumptions; simp (decide := true) at h h2; obtain ⟨rfl, rfl⟩ := h; subst h2; exact kitAll_at T.k_BadPaper 1 rfl
  by_cases e_BadWorld : c = "BadWorld"
  · subst e_BadWorld; simp (decide := true) at h h2; obtain ⟨rfl, rfl⟩ := h; subst h2; exact kitAll_at T.k_BadPaper 2 rfl
  by_cases e_BadPoint : c = "BadPoint"
  · subst e_BadPoint; simp (decide := true) at h h2; obtain ⟨rfl, rfl⟩ := h; subst h2; exact kitAll_at T.k_BadPaper 3 rfl
  by_cases e_BadTerm : c = "BadTerm"
  · subst e_BadTerm; simp (decide := true) at h h2; obtain ⟨rfl, rfl⟩ := h; subst h2; exact kitAll_at T.k_BadPaper 4 rfl
  by_cases e_BadPaper : c = "BadPaper"
  · subst e_BadPaper; simp (decide := true) at h h2; obtain ⟨rfl, rfl⟩ := h; subst h2; exact kitAll_at T.k_BadPaper 5 rfl
  by_cases e_BadText : c = "BadText"
  · subst e_BadText; simp (decide := true) at h h2; obtain ⟨rfl, rfl⟩ := h; subst h2; exact kitAll_at T.k_BadPaper 6 rfl
  by_cases e_BadNumber : c = "BadNumber"
  · subst e_BadNumber; simp (decide := true) at h h2; obtain ⟨rfl, rfl⟩ := h; subst h2; exact kitAll_at T.k_BadPaper 7 rfl
  by_cases e_BadLetters : c = "BadLetters"
  · subst e_BadLetters; simp (decide := true) at h h2; obtain ⟨rfl, rfl⟩ := h; subst h2; exact kitAll_at T.k_BadPaper 8 rfl
  by_cases e_BadBook : c = "BadBook"
  · subst e_BadBook; simp (decide := true) at h h2; obtain ⟨rfl, rfl⟩ := h; subst h2; exact kitAll_at T.k_BadPaper 9 rfl
  by_cases e_BadForm : c = "BadForm"
  · subst e_BadForm; simp (decide := true) at h h2; obtain ⟨rfl, rfl⟩ := h; subst h2; exact kitAll_at T.k_BadPaper 10 rfl
  by_cases e_BadOrder : c = "BadOrder"
  · subst e_BadOrder; simp (decide := true) at h h2; obtain ⟨rfl, rfl⟩ := h; subst h2; exact kitAll_at T.k_BadPaper 11 rfl
  by_cases e_BadMove : c = "BadMove"
  · subst e_BadMove; simp (decide := true) at h h2; obtain ⟨rfl, rfl⟩ := h; subst h2; exact kitAll_at T.k_BadPaper 12 rfl
  by_cases e_BadDeed : c = "BadDeed"
  · subst e_BadDeed; simp (decide := true) at h h2; obtain ⟨rfl, rfl⟩ := h; subst h2; exact kitAll_at T.k_BadPaper 13 rfl
  by_cases e_BadTheory : c = "BadTheory"
  · subst e_BadTheory; simp (decide := true) at h h2; obtain ⟨rfl, rfl⟩ := h; subst h2; exact kitAll_at T.k_BadPaper 14 rfl
  by_cases e_TooMany : c = "TooMany"
  · subst e_TooMany; simp (decide := true) at h h2; obtain ⟨rfl, rfl⟩ := h; subst h2; exact kitAll_at T.k_BadPaper 15 rfl
  by_cases e_NoSuch : c = "NoSuch"
  · subst e_NoSuch; simp (decide := true) at h h2; obtain ⟨rfl, rfl⟩ := h; subst h2; exact kitAll_at T.k_BadPaper 16 rfl
  simp (decide := true) [e_BadClaim, e_BadAssumptions, e_BadWorld, e_BadPoint, e_BadTerm, e_BadPaper, e_BadText, e_BadNumber, e_BadLetters, e_BadBook, e_BadForm, e_BadOrder, e_BadMove, e_BadDeed, e_BadTheory, e_TooMany, e_NoSuch] at h
theorem isx_BadPoint (T : Tx K mg) : ∀ c A f b, T.C.c c = some (A, f) → t_isx "BadPoint" c = some b → PySem.W.kitOne K (.ref A) (.ref T.A_BadPoint) = some b := by
  intro c A f b h h2
  unfold Tx.C at h; dsimp only at h; unfold t_isx at h2
  by_cases e_BadClaim : c = "BadClaim"
  · subst e_BadClaim; simp (decide := true) at h h2; obtain ⟨rfl, rfl⟩ := h; subst h2; exact kitAll_at T.k_BadPoint 0 rfl
  by_cases e_BadAssumptions : c = "BadAssumptions"
  · subst e_BadAssumptions; simp (decide := true) at h h2; obtain ⟨rfl, rfl⟩ := h; subst h2; exact kitAll_at T.k_BadPoint 1 rfl
  by_cases e_BadWorld : c = "BadWorld"
  · subst e_BadWorld; simp (decide := true) at h h2; obtain ⟨rfl, rfl⟩ := h; subst h2; exact kitAll_at T.k_BadPoint 2 rfl
  by_cases e_BadPoint : c = "BadPoint"
  · subst e_BadPoint; simp (decide := true) at h h2; obtain ⟨rfl, rfl⟩ := h; subst h2; exact kitAll_at T.k_BadPoint 3 rfl
  by_cases e_BadTerm : c = "BadTerm"
  · subst e_BadTerm; simp (decide := true) at h h2; obtain ⟨rfl, rfl⟩ := h; subst h2; exact kitAll_at T.k_BadPoint 4 rfl
  by_cases e_BadPaper : c = "BadPaper"
  · subst e_BadPaper; simp (decide := true) at h h2; obtain ⟨rfl, rfl⟩ := h; subst h2; exact kitAll_at T.k_BadPoint 5 rfl
  by_cases e_BadText : c = "BadText"
  · subst e_BadText; simp (decide := true) at h h2; obtain ⟨rfl, rfl⟩ := h; subst h2; exact kitAll_at T.k_BadPoint 6 rfl
  by_cases e_BadNumber : c = "BadNumber"
  · subst e_BadNumber; simp (decide := true) at h h2; obtain ⟨rfl, rfl⟩ := h; subst h2; exact kitAll_at T.k_BadPoint 7 rfl
  by_cases e_BadLetters : c = "BadLetters"
  · subst e_BadLetters; simp (decide := true) at h h2; obtain ⟨rfl, rfl⟩ := h; subst h2; exact kitAll_at T.k_BadPoint 8 rfl
  by_cases e_BadBook : c = "BadBook"
  · subst e_BadBook; simp (decide := true) at h h2; obtain ⟨rfl, rfl⟩ := h; subst h2; exact kitAll_at T.k_BadPoint 9 rfl
  by_cases e_BadForm : c = "BadForm"
  · subst e_BadForm; simp (decide := true) at h h2; obtain ⟨rfl, rfl⟩ := h; subst h2; exact kitAll_at T.k_BadPoint 10 rfl
  by_cases e_BadOrder : c = "BadOrder"
  · subst e_BadOrder; simp (decide := true) at h h2; obtain ⟨rfl, rfl⟩ := h; subst h2; exact kitAll_at T.k_BadPoint 11 rfl
  by_cases e_BadMove : c = "BadMove"
  · subst e_BadMove; simp (decide := true) at h h2; obtain ⟨rfl, rfl⟩ := h; subst h2; exact kitAll_at T.k_BadPoint 12 rfl
  by_cases e_BadDeed : c = "BadDeed"
  · subst e_BadDeed; simp (decide := true) at h h2; obtain ⟨rfl, rfl⟩ := h; subst h2; exact kitAll_at T.k_BadPoint 13 rfl
  by_cases e_BadTheory : c = "BadTheory"
  · subst e_BadTheory; simp (decide := true) at h h2; obtain ⟨rfl, rfl⟩ := h; subst h2; exact kitAll_at T.k_BadPoint 14 rfl
  by_cases e_TooMany : c = "TooMany"
  · subst e_TooMany; simp (decide := true) at h h2; obtain ⟨rfl, rfl⟩ := h; subst h2; exact kitAll_at T.k_BadPoint 15 rfl
  by_cases e_NoSuch : c = "NoSuch"
  · subst e_NoSuch; simp (decide := true) at h h2; obtain ⟨rfl, rfl⟩ := h; subst h2; exact kitAll_at T.k_BadPoint 16 rfl
  simp (decide := true) [e_BadClaim, e_BadAssumptions, e_BadWorld, e_BadPoint, e_BadTerm, e_BadPaper, e_BadText, e_BadNumber, e_BadLetters, e_BadBook, e_BadForm, e_BadOrder, e_BadMove, e_BadDeed, e_BadTheory, e_TooMany, e_NoSuch] at h
theorem isx_BadTerm (T : Tx K mg) : ∀ c A f b, T.C.c c = some (A, f) → t_isx "BadTerm" c = some b → PySem.W.kitOne K (.ref A) (.ref T.A_BadTerm) = some b := by
  intro c A f b h h2
  unfold Tx.C at h; dsimp only at h; unfold t_isx at h2
  by_cases e_BadClaim : c = "BadClaim"
  · subst e_BadClaim; simp (decide := true) at h h2; obtain ⟨rfl, rfl⟩ := h; subst h2; exact kitAll_at T.k_BadTerm 0 rfl
  by_cases e_BadAssumptions : c = "BadAssumptions"
  · subst e_BadAssumptions; simp (decide := true) at h h2; obtain ⟨rfl, rfl⟩ := h; subst h2; exact kitAll_at T.k_BadTerm 1 rfl
  by_cases e_BadWorld : c = "BadWorld"
  · subst e_BadWorld; simp (decide := true) at h h2; obtain ⟨rfl, rfl⟩ := h; subst h2; exact kitAll_at T.k_BadTerm 2 rfl
  by_cases e_BadPoint : c = "BadPoint"
  · subst e_BadPoint; simp (decide := true) at h h2; obtain ⟨rfl, rfl⟩ := h; subst h2; exact kitAll_at T.k_BadTerm 3 rfl
  by_cases e_BadTerm : c = "BadTerm"
  · subst e_BadTerm; simp (decide := true) at h h2; obtain ⟨rfl, rfl⟩ := h; subst h2; exact kitAll_at T.k_BadTerm 4 rfl
  by_cases e_BadPaper : c = "BadPaper"
  · subst e_BadPaper; simp (decide := true) at h h2; obtain ⟨rfl, rfl⟩ := h; subst h2; exact kitAll_at T.k_BadTerm 5 rfl
  by_cases e_BadText : c = "BadText"
  · subst e_BadText; simp (decide := true) at h h2; obtain ⟨rfl, rfl⟩ := h; subst h2; exact kitAll_at T.k_BadTerm 6 rfl
  by_cases e_BadNumber : c = "BadNumber"
  · subst e_BadNumber; simp (decide := true) at h h2; obtain ⟨rfl, rfl⟩ := h; subst h2; exact kitAll_at T.k_BadTerm 7 rfl
  by_cases e_BadLetters : c = "BadLetters"
  · subst e_BadLetters; simp (decide := true) at h h2; obtain ⟨rfl, rfl⟩ := h; subst h2; exact kitAll_at T.k_BadTerm 8 rfl
  by_cases e_BadBook : c = "BadBook"
  · subst e_BadBook; simp (decide := true) at h h2; obtain ⟨rfl, rfl⟩ := h; subst h2; exact kitAll_at T.k_BadTerm 9 rfl
  by_cases e_BadForm : c = "BadForm"
  · subst e_BadForm; simp (decide := true) at h h2; obtain ⟨rfl, rfl⟩ := h; subst h2; exact kitAll_at T.k_BadTerm 10 rfl
  by_cases e_BadOrder : c = "BadOrder"
  · subst e_BadOrder; simp (decide := true) at h h2; obtain ⟨rfl, rfl⟩ := h; subst h2; exact kitAll_at T.k_BadTerm 11 rfl
  by_cases e_BadMove : c = "BadMove"
  · subst e_BadMove; simp (decide := true) at h h2; obtain ⟨rfl, rfl⟩ := h; subst h2; exact kitAll_at T.k_BadTerm 12 rfl
  by_cases e_BadDeed : c = "BadDeed"
  · subst e_BadDeed; simp (decide := true) at h h2; obtain ⟨rfl, rfl⟩ := h; subst h2; exact kitAll_at T.k_BadTerm 13 rfl
  by_cases e_BadTheory : c = "BadTheory"
  · subst e_BadTheory; simp (decide := true) at h h2; obtain ⟨rfl, rfl⟩ := h; subst h2; exact kitAll_at T.k_BadTerm 14 rfl
  by_cases e_TooMany : c = "TooMany"
  · subst e_TooMany; simp (decide := true) at h h2; obtain ⟨rfl, rfl⟩ := h; subst h2; exact kitAll_at T.k_BadTerm 15 rfl
  by_cases e_NoSuch : c = "NoSuch"
  · subst e_NoSuch; simp (decide := true) at h h2; obtain ⟨rfl, rfl⟩ := h; subst h2; exact kitAll_at T.k_BadTerm 16 rfl
  simp (decide := true) [e_BadClaim, e_BadAssumptions, e_BadWorld, e_BadPoint, e_BadTerm, e_BadPaper, e_BadText, e_BadNumber, e_BadLetters, e_BadBook, e_BadForm, e_BadOrder, e_BadMove, e_BadDeed, e_BadTheory, e_TooMany, e_NoSuch] at h
theorem isx_BadText (T : Tx K mg) : ∀ c A f b, T.C.c c = some (A, f) → t_isx "BadText" c = some b → PySem.W.kitOne K (.ref A) (.ref T.A_BadText) = some b := by
  intro c A f b h h2
  unfold Tx.C at h; dsimp only at h; unfold t_isx at h2
  by_cases e_BadClaim : c = "BadClaim"
  · subst e_BadClaim; simp (decide := true) at h h2; obtain ⟨rfl, rfl⟩ := h; subst h2; exact kitAll_at T.k_BadText 0 rfl
  by_cases e_BadAssumptions : c = "BadAssumptions"
  · subst e_BadAssumptions; simp (decide := true) at h h2; obtain ⟨rfl, rfl⟩ := h; subst h2; exact kitAll_at T.k_BadText 1 rfl
  by_cases e_BadWorld : c = "BadWorld"
  · subst e_BadWorld; simp (decide := true) at h h2; obtain ⟨rfl, rfl⟩ := h; subst h2; exact kitAll_at T.k_BadText 2 rfl
  by_cases e_BadPoint : c = "BadPoint"
  · subst e_BadPoint; simp (decide := true) at h h2; obtain ⟨rfl, rfl⟩ := h; subst h2; exact kitAll_at T.k_BadText 3 rfl
  by_cases e_BadTerm : c = "BadTerm"
  · subst e_BadTerm; simp (decide := true) at h h2; obtain ⟨rfl, rfl⟩ := h; subst h2; exact kitAll_at T.k_BadText 4 rfl
  by_cases e_BadPaper : c = "BadPaper"
  · subst e_BadPaper; simp (decide := true) at h h2; obtain ⟨rfl, rfl⟩ := h; subst h2; exact kitAll_at T.k_BadText 5 rfl
  by_cases e_BadText : c = "BadText"
  · subst e_BadText; simp (decide := true) at h h2; obtain ⟨rfl, rfl⟩ := h; subst h2; exact kitAll_at T.k_BadText 6 rfl
  by_cases e_BadNumber : c = "BadNumber"
  · subst e_BadNumber; simp (decide := true) at h h2; obtain ⟨rfl, rfl⟩ := h; subst h2; exact kitAll_at T.k_BadText 7 rfl
  by_cases e_BadLetters : c = "BadLetters"
  · subst e_BadLetters; simp (decide := true) at h h2; obtain ⟨rfl, rfl⟩ := h; subst h2; exact kitAll_at T.k_BadText 8 rfl
  by_cases e_BadBook : c = "BadBook"
  · subst e_BadBook; simp (decide := true) at h h2; obtain ⟨rfl, rfl⟩ := h; subst h2; exact kitAll_at T.k_BadText 9 rfl
  by_cases e_BadForm : c = "BadForm"
  · subst e_BadForm; simp (decide := true) at h h2; obtain ⟨rfl, rfl⟩ := h; subst h2; exact kitAll_at T.k_BadText 10 rfl
  by_cases e_BadOrder : c = "BadOrder"
  · subst e_BadOrder; simp (decide := true) at h h2; obtain ⟨rfl, rfl⟩ := h; subst h2; exact kitAll_at T.k_BadText 11 rfl
  by_cases e_BadMove : c = "BadMove"
  · subst e_BadMove; simp (decide := true) at h h2; obtain ⟨rfl, rfl⟩ := h; subst h2; exact kitAll_at T.k_BadText 12 rfl
  by_cases e_BadDeed : c = "BadDeed"
  · subst e_BadDeed; simp (decide := true) at h h2; obtain ⟨rfl, rfl⟩ := h; subst h2; exact kitAll_at T.k_BadText 13 rfl
  by_cases e_BadTheory : c = "BadTheory"
  · subst e_BadTheory; simp (decide := true) at h h2; obtain ⟨rfl, rfl⟩ := h; subst h2; exact kitAll_at T.k_BadText 14 rfl
  by_cases e_TooMany : c = "TooMany"
  · subst e_TooMany; simp (decide := true) at h h2; obtain ⟨rfl, rfl⟩ := h; subst h2; exact kitAll_at T.k_BadText 15 rfl
  by_cases e_NoSuch : c = "NoSuch"
  · subst e_NoSuch; simp (decide := true) at h h2; obtain ⟨rfl, rfl⟩ := h; subst h2; exact kitAll_at T.k_BadText 16 rfl
  simp (decide := true) [e_BadClaim, e_BadAssumptions, e_BadWorld, e_BadPoint, e_BadTerm, e_BadPaper, e_BadText, e_BadNumber, e_BadLetters, e_BadBook, e_BadForm, e_BadOrder, e_BadMove, e_BadDeed, e_BadTheory, e_TooMany, e_NoSuch] at h
theorem isx_BadTheory (T : Tx K mg) : ∀ c A f b, T.C.c c = some (A, f) → t_isx "BadTheory" c = some b → PySem.W.kitOne K (.ref A) (.ref T.A_BadTheory) = some b := by
  intro c A f b h h2
  unfold Tx.C at h; dsimp only at h; unfold t_isx at h2
  by_cases e_BadClaim : c = "BadClaim"
  · subst e_BadClaim; simp (decide := true) at h h2; obtain ⟨rfl, rfl⟩ := h; subst h2; exact kitAll_at T.k_BadTheory 0 rfl
  by_cases e_BadAssumptions : c = "BadAssumptions"
  · subst e_BadAssumptions; simp (decide := true) at h h2; obtain ⟨rfl, rfl⟩ := h; subst h2; exact kitAll_at T.k_BadTheory 1 rfl
  by_cases e_BadWorld : c = "BadWorld"
  · subst e_BadWorld; simp (decide := true) at h h2; obtain ⟨rfl, rfl⟩ := h; subst h2; exact kitAll_at T.k_BadTheory 2 rfl
  by_cases e_BadPoint : c = "BadPoint"
  · subst e_BadPoint; simp (decide := true) at h h2; obtain ⟨rfl, rfl⟩ := h; subst h2; exact kitAll_at T.k_BadTheory 3 rfl
  by_cases e_BadTerm : c = "BadTerm"
  · subst e_BadTerm; simp (decide := true) at h h2; obtain ⟨rfl, rfl⟩ := h; subst h2; exact kitAll_at T.k_BadTheory 4 rfl
  by_cases e_BadPaper : c = "BadPaper"
  · subst e_BadPaper; simp (decide := true) at h h2; obtain ⟨rfl, rfl⟩ := h; subst h2; exact kitAll_at T.k_BadTheory 5 rfl
  by_cases e_BadText : c = "BadText"
  · subst e_BadText; simp (decide := true) at h h2; obtain ⟨rfl, rfl⟩ := h; subst h2; exact kitAll_at T.k_BadTheory 6 rfl
  by_cases e_BadNumber : c = "BadNumber"
  · subst e_BadNumber; simp (decide := true) at h h2; obtain ⟨rfl, rfl⟩ := h; subst h2; exact kitAll_at T.k_BadTheory 7 rfl
  by_cases e_BadLetters : c = "BadLetters"
  · subst e_BadLetters; simp (decide := true) at h h2; obtain ⟨rfl, rfl⟩ := h; subst h2; exact kitAll_at T.k_BadTheory 8 rfl
  by_cases e_BadBook : c = "BadBook"
  · subst e_BadBook; simp (decide := true) at h h2; obtain ⟨rfl, rfl⟩ := h; subst h2; exact kitAll_at T.k_BadTheory 9 rfl
  by_cases e_BadForm : c = "BadForm"
  · subst e_BadForm; simp (decide := true) at h h2; obtain ⟨rfl, rfl⟩ := h; subst h2; exact kitAll_at T.k_BadTheory 10 rfl
  by_cases e_BadOrder : c = "BadOrder"
  · subst e_BadOrder; simp (decide := true) at h h2; obtain ⟨rfl, rfl⟩ := h; subst h2; exact kitAll_at T.k_BadTheory 11 rfl
  by_cases e_BadMove : c = "BadMove"
  · subst e_BadMove; simp (decide := true) at h h2; obtain ⟨rfl, rfl⟩ := h; subst h2; exact kitAll_at T.k_BadTheory 12 rfl
  by_cases e_BadDeed : c = "BadDeed"
  · subst e_BadDeed; simp (decide := true) at h h2; obtain ⟨rfl, rfl⟩ := h; subst h2; exact kitAll_at T.k_BadTheory 13 rfl
  by_cases e_BadTheory : c = "BadTheory"
  · subst e_BadTheory; simp (decide := true) at h h2; obtain ⟨rfl, rfl⟩ := h; subst h2; exact kitAll_at T.k_BadTheory 14 rfl
  by_cases e_TooMany : c = "TooMany"
  · subst e_TooMany; simp (decide := true) at h h2; obtain ⟨rfl, rfl⟩ := h; subst h2; exact kitAll_at T.k_BadTheory 15 rfl
  by_cases e_NoSuch : c = "NoSuch"
  · subst e_NoSuch; simp (decide := true) at h h2; obtain ⟨rfl, rfl⟩ := h; subst h2; exact kitAll_at T.k_BadTheory 16 rfl
  simp (decide := true) [e_BadClaim, e_BadAssumptions, e_BadWorld, e_BadPoint, e_BadTerm, e_BadPaper, e_BadText, e_BadNumber, e_BadLetters, e_BadBook, e_BadForm, e_BadOrder, e_BadMove, e_BadDeed, e_BadTheory, e_TooMany, e_NoSuch] at h
theorem isx_BadWorld (T : Tx K mg) : ∀ c A f b, T.C.c c = some (A, f) → t_isx "BadWorld" c = some b → PySem.W.kitOne K (.ref A) (.ref T.A_BadWorld) = some b := by
  intro c A f b h h2
  unfold Tx.C at h; dsimp only at h; unfold t_isx at h2
  by_cases e_BadClaim : c = "BadClaim"
  · subst e_BadClaim; simp (decide := true) at h h2; obtain ⟨rfl, rfl⟩ := h; subst h2; exact kitAll_at T.k_BadWorld 0 rfl
  by_cases e_BadAssumptions : c = "BadAssumptions"
  · subst e_BadAssumptions; simp (decide := true) at h h2; obtain ⟨rfl, rfl⟩ := h; subst h2; exact kitAll_at T.k_BadWorld 1 rfl
  by_cases e_BadWorld : c = "BadWorld"
  · subst e_BadWorld; simp (decide := true) at h h2; obtain ⟨rfl, rfl⟩ := h; subst h2; exact kitAll_at T.k_BadWorld 2 rfl
  by_cases e_BadPoint : c = "BadPoint"
  · subst e_BadPoint; simp (decide := true) at h h2; obtain ⟨rfl, rfl⟩ := h; subst h2; exact kitAll_at T.k_BadWorld 3 rfl
  by_cases e_BadTerm : c = "BadTerm"
  · subst e_BadTerm; simp (decide := true) at h h2; obtain ⟨rfl, rfl⟩ := h; subst h2; exact kitAll_at T.k_BadWorld 4 rfl
  by_cases e_BadPaper : c = "BadPaper"
  · subst e_BadPaper; simp (decide := true) at h h2; obtain ⟨rfl, rfl⟩ := h; subst h2; exact kitAll_at T.k_BadWorld 5 rfl
  by_cases e_BadText : c = "BadText"
  · subst e_BadText; simp (decide := true) at h h2; obtain ⟨rfl, rfl⟩ := h; subst h2; exact kitAll_at T.k_BadWorld 6 rfl
  by_cases e_BadNumber : c = "BadNumber"
  · subst e_BadNumber; simp (decide := true) at h h2; obtain ⟨rfl, rfl⟩ := h; subst h2; exact kitAll_at T.k_BadWorld 7 rfl
  by_cases e_BadLetters : c = "BadLetters"
  · subst e_BadLetters; simp (decide := true) at h h2; obtain ⟨rfl, rfl⟩ := h; subst h2; exact kitAll_at T.k_BadWorld 8 rfl
  by_cases e_BadBook : c = "BadBook"
  · subst e_BadBook; simp (decide := true) at h h2; obtain ⟨rfl, rfl⟩ := h; subst h2; exact kitAll_at T.k_BadWorld 9 rfl
  by_cases e_BadForm : c = "BadForm"
  · subst e_BadForm; simp (decide := true) at h h2; obtain ⟨rfl, rfl⟩ := h; subst h2; exact kitAll_at T.k_BadWorld 10 rfl
  by_cases e_BadOrder : c = "BadOrder"
  · subst e_BadOrder; simp (decide := true) at h h2; obtain ⟨rfl, rfl⟩ := h; subst h2; exact kitAll_at T.k_BadWorld 11 rfl
  by_cases e_BadMove : c = "BadMove"
  · subst e_BadMove; simp (decide := true) at h h2; obtain ⟨rfl, rfl⟩ := h; subst h2; exact kitAll_at T.k_BadWorld 12 rfl
  by_cases e_BadDeed : c = "BadDeed"
  · subst e_BadDeed; simp (decide := true) at h h2; obtain ⟨rfl, rfl⟩ := h; subst h2; exact kitAll_at T.k_BadWorld 13 rfl
  by_cases e_BadTheory : c = "BadTheory"
  · subst e_BadTheory; simp (decide := true) at h h2; obtain ⟨rfl, rfl⟩ := h; subst h2; exact kitAll_at T.k_BadWorld 14 rfl
  by_cases e_TooMany : c = "TooMany"
  · subst e_TooMany; simp (decide := true) at h h2; obtain ⟨rfl, rfl⟩ := h; subst h2; exact kitAll_at T.k_BadWorld 15 rfl
  by_cases e_NoSuch : c = "NoSuch"
  · subst e_NoSuch; simp (decide := true) at h h2; obtain ⟨rfl, rfl⟩ := h; subst h2; exact kitAll_at T.k_BadWorld 16 rfl
  simp (decide := true) [e_BadClaim, e_BadAssumptions, e_BadWorld, e_BadPoint, e_BadTerm, e_BadPaper, e_BadText, e_BadNumber, e_BadLetters, e_BadBook, e_BadForm, e_BadOrder, e_BadMove, e_BadDeed, e_BadTheory, e_TooMany, e_NoSuch] at h
theorem isx_LookupError (T : Tx K mg) : ∀ c A f b, T.C.c c = some (A, f) → t_isx "LookupError" c = some b → PySem.W.kitOne K (.ref A) (.type "LookupError") = some b := by
  intro c A f b h h2
  unfold Tx.C at h; dsimp only at h; unfold t_isx at h2
  by_cases e_BadClaim : c = "BadClaim"
  · subst e_BadClaim; simp (decide := true) at h h2; obtain ⟨rfl, rfl⟩ := h; subst h2; exact kitAll_at T.k_LookupError 0 rfl
  by_cases e_BadAssumptions : c = "BadAssumptions"
  · subst e_BadAssumptions; simp (decide := true) at h h2; obtain ⟨rfl, rfl⟩ := h; subst h2; exact kitAll_at T.k_LookupError 1 rfl
  by_cases e_BadWorld : c = "BadWorld"
  · subst e_BadWorld; simp (decide := true) at h h2; obtain ⟨rfl, rfl⟩ := h; subst h2; exact kitAll_at T.k_LookupError 2 rfl
  by_cases e_BadPoint : c = "BadPoint"
  · subst e_BadPoint; simp (decide := true) at h h2; obtain ⟨rfl, rfl⟩ := h; subst h2; exact kitAll_at T.k_LookupError 3 rfl
  by_cases e_BadTerm : c = "BadTerm"
  · subst e_BadTerm; simp (decide := true) at h h2; obtain ⟨rfl, rfl⟩ := h; subst h2; exact kitAll_at T.k_LookupError 4 rfl
  by_cases e_BadPaper : c = "BadPaper"
  · subst e_BadPaper; simp (decide := true) at h h2; obtain ⟨rfl, rfl⟩ := h; subst h2; exact kitAll_at T.k_LookupError 5 rfl
  by_cases e_BadText : c = "BadText"
  · subst e_BadText; simp (decide := true) at h h2; obtain ⟨rfl, rfl⟩ := h; subst h2; exact kitAll_at T.k_LookupError 6 rfl
  by_cases e_BadNumber : c = "BadNumber"
  · subst e_BadNumber; simp (decide := true) at h h2; obtain ⟨rfl, rfl⟩ := h; subst h2; exact kitAll_at T.k_LookupError 7 rfl
  by_cases e_BadLetters : c = "BadLetters"
  · subst e_BadLetters; simp (decide := true) at h h2; obtain ⟨rfl, rfl⟩ := h; subst h2; exact kitAll_at T.k_LookupError 8 rfl
  by_cases e_BadBook : c = "BadBook"
  · subst e_BadBook; simp (decide := true) at h h2; obtain ⟨rfl, rfl⟩ := h; subst h2; exact kitAll_at T.k_LookupError 9 rfl
  by_cases e_BadForm : c = "BadForm"
  · subst e_BadForm; simp (decide := true) at h h2; obtain ⟨rfl, rfl⟩ := h; subst h2; exact kitAll_at T.k_LookupError 10 rfl
  by_cases e_BadOrder : c = "BadOrder"
  · subst e_BadOrder; simp (decide := true) at h h2; obtain ⟨rfl, rfl⟩ := h; subst h2; exact kitAll_at T.k_LookupError 11 rfl
  by_cases e_BadMove : c = "BadMove"
  · subst e_BadMove; simp (decide := true) at h h2; obtain ⟨rfl, rfl⟩ := h; subst h2; exact kitAll_at T.k_LookupError 12 rfl
  by_cases e_BadDeed : c = "BadDeed"
  · subst e_BadDeed; simp (decide := true) at h h2; obtain ⟨rfl, rfl⟩ := h; subst h2; exact kitAll_at T.k_LookupError 13 rfl
  by_cases e_BadTheory : c = "BadTheory"
  · subst e_BadTheory; simp (decide := true) at h h2; obtain ⟨rfl, rfl⟩ := h; subst h2; exact kitAll_at T.k_LookupError 14 rfl
  by_cases e_TooMany : c = "TooMany"
  · subst e_TooMany; simp (decide := true) at h h2; obtain ⟨rfl, rfl⟩ := h; subst h2; exact kitAll_at T.k_LookupError 15 rfl
  by_cases e_NoSuch : c = "NoSuch"
  · subst e_NoSuch; simp (decide := true) at h h2; obtain ⟨rfl, rfl⟩ := h; subst h2; exact kitAll_at T.k_LookupError 16 rfl
  simp (decide := true) [e_BadClaim, e_BadAssumptions, e_BadWorld, e_BadPoint, e_BadTerm, e_BadPaper, e_BadText, e_BadNumber, e_BadLetters, e_BadBook, e_BadForm, e_BadOrder, e_BadMove, e_BadDeed, e_BadTheory, e_TooMany, e_NoSuch] at h
theorem isx_NoSuch (T : Tx K mg) : ∀ c A f b, T.C.c c = some (A, f) → t_isx "NoSuch" c = some b → PySem.W.kitOne K (.ref A) (.ref T.A_NoSuch) = some b := by
  intro c A f b h h2
  unfold Tx.C at h; dsimp only at h; unfold t_isx at h2
  by_cases e_BadClaim : c = "BadClaim"
  · subst e_BadClaim; simp (decide := true) at h h2; obtain ⟨rfl, rfl⟩ := h; subst h2; exact kitAll_at T.k_NoSuch 0 rfl
  by_cases e_BadAssumptions : c = "BadAssumptions"
  · subst e_BadAssumptions; simp (decide := true) at h h2; obtain ⟨rfl, rfl⟩ := h; subst h2; exact kitAll_at T.k_NoSuch 1 rfl
  by_cases e_BadWorld : c = "BadWorld"
  · subst e_BadWorld; simp (decide := true) at h h2; obtain ⟨rfl, rfl⟩ := h; subst h2; exact kitAll_at T.k_NoSuch 2 rfl
  by_cases e_BadPoint : c = "BadPoint"
  · subst e_BadPoint; simp (decide := true) at h h2; obtain ⟨rfl, rfl⟩ := h; subst h2; exact kitAll_at T.k_NoSuch 3 rfl
  by_cases e_BadTerm : c = "BadTerm"
  · subst e_BadTerm; simp (decide := true) at h h2; obtain ⟨rfl, rfl⟩ := h; subst h2; exact kitAll_at T.k_NoSuch 4 rfl
  by_cases e_BadPaper : c = "BadPaper"
  · subst e_BadPaper; simp (decide := true) at h h2; obtain ⟨rfl, rfl⟩ := h; subst h2; exact kitAll_at T.k_NoSuch 5 rfl
  by_cases e_BadText : c = "BadText"
  · subst e_BadText; simp (decide := true) at h h2; obtain ⟨rfl, rfl⟩ := h; subst h2; exact kitAll_at T.k_NoSuch 6 rfl
  by_cases e_BadNumber : c = "BadNumber"
  · subst e_BadNumber; simp (decide := true) at h h2; obtain ⟨rfl, rfl⟩ := h; subst h2; exact kitAll_at T.k_NoSuch 7 rfl
  by_cases e_BadLetters : c = "BadLetters"
  · subst e_BadLetters; simp (decide := true) at h h2; obtain ⟨rfl, rfl⟩ := h; subst h2; exact kitAll_at T.k_NoSuch 8 rfl
  by_cases e_BadBook : c = "BadBook"
  · subst e_BadBook; simp (decide := true) at h h2; obtain ⟨rfl, rfl⟩ := h; subst h2; exact kitAll_at T.k_NoSuch 9 rfl
  by_cases e_BadForm : c = "BadForm"
  · subst e_BadForm; simp (decide := true) at h h2; obtain ⟨rfl, rfl⟩ := h; subst h2; exact kitAll_at T.k_NoSuch 10 rfl
  by_cases e_BadOrder : c = "BadOrder"
  · subst e_BadOrder; simp (decide := true) at h h2; obtain ⟨rfl, rfl⟩ := h; subst h2; exact kitAll_at T.k_NoSuch 11 rfl
  by_cases e_BadMove : c = "BadMove"
  · subst e_BadMove; simp (decide := true) at h h2; obtain ⟨rfl, rfl⟩ := h; subst h2; exact kitAll_at T.k_NoSuch 12 rfl
  by_cases e_BadDeed : c = "BadDeed"
  · subst e_BadDeed; simp (decide := true) at h h2; obtain ⟨rfl, rfl⟩ := h; subst h2; exact kitAll_at T.k_NoSuch 13 rfl
  by_cases e_BadTheory : c = "BadTheory"
  · subst e_BadTheory; simp (decide := true) at h h2; obtain ⟨rfl, rfl⟩ := h; subst h2; exact kitAll_at T.k_NoSuch 14 rfl
  by_cases e_TooMany : c = "TooMany"
  · subst e_TooMany; simp (decide := true) at h h2; obtain ⟨rfl, rfl⟩ := h; subst h2; exact kitAll_at T.k_NoSuch 15 rfl
  by_cases e_NoSuch : c = "NoSuch"
  · subst e_NoSuch; simp (decide := true) at h h2; obtain ⟨rfl, rfl⟩ := h; subst h2; exact kitAll_at T.k_NoSuch 16 rfl
  simp (decide := true) [e_BadClaim, e_BadAssumptions, e_BadWorld, e_BadPoint, e_BadTerm, e_BadPaper, e_BadText, e_BadNumber, e_BadLetters, e_BadBook, e_BadForm, e_BadOrder, e_BadMove, e_BadDeed, e_BadTheory, e_TooMany, e_NoSuch] at h
theorem isx_OverflowError (T : Tx K mg) : ∀ c A f b, T.C.c c = some (A, f) → t_isx "OverflowError" c = some b → PySem.W.kitOne K (.ref A) (.type "OverflowError") = some b := by
  intro c A f b h h2
  unfold Tx.C at h; dsimp only at h; unfold t_isx at h2
  by_cases e_BadClaim : c = "BadClaim"
  · subst e_BadClaim; simp (decide := true) at h h2; obtain ⟨rfl, rfl⟩ := h; subst h2; exact kitAll_at T.k_OverflowError 0 rfl
  by_cases e_BadAssumptions : c = "BadAssumptions"
  · subst e_BadAssumptions; simp (decide := true) at h h2; obtain ⟨rfl, rfl⟩ := h; subst h2; exact kitAll_at T.k_OverflowError 1 rfl
  by_cases e_BadWorld : c = "BadWorld"
  · subst e_BadWorld; simp (decide := true) at h h2; obtain ⟨rfl, rfl⟩ := h; subst h2; exact kitAll_at T.k_OverflowError 2 rfl
  by_cases e_BadPoint : c = "BadPoint"
  · subst e_BadPoint; simp (decide := true) at h h2; obtain ⟨rfl, rfl⟩ := h; subst h2; exact kitAll_at T.k_OverflowError 3 rfl
  by_cases e_BadTerm : c = "BadTerm"
  · subst e_BadTerm; simp (decide := true) at h h2; obtain ⟨rfl, rfl⟩ := h; subst h2; exact kitAll_at T.k_OverflowError 4 rfl
  by_cases e_BadPaper : c = "BadPaper"
  · subst e_BadPaper; simp (decide := true) at h h2; obtain ⟨rfl, rfl⟩ := h; subst h2; exact kitAll_at T.k_OverflowError 5 rfl
  by_cases e_BadText : c = "BadText"
  · subst e_BadText; simp (decide := true) at h h2; obtain ⟨rfl, rfl⟩ := h; subst h2; exact kitAll_at T.k_OverflowError 6 rfl
  by_cases e_BadNumber : c = "BadNumber"
  · subst e_BadNumber; simp (decide := true) at h h2; obtain ⟨rfl, rfl⟩ := h; subst h2; exact kitAll_at T.k_OverflowError 7 rfl
  by_cases e_BadLetters : c = "BadLetters"
  · subst e_BadLetters; simp (decide := true) at h h2; obtain ⟨rfl, rfl⟩ := h; subst h2; exact kitAll_at T.k_OverflowError 8 rfl
  by_cases e_BadBook : c = "BadBook"
  · subst e_BadBook; simp (decide := true) at h h2; obtain ⟨rfl, rfl⟩ := h; subst h2; exact kitAll_at T.k_OverflowError 9 rfl
  by_cases e_BadForm : c = "BadForm"
  · subst e_BadForm; simp (decide := true) at h h2; obtain ⟨rfl, rfl⟩ := h; subst h2; exact kitAll_at T.k_OverflowError 10 rfl
  by_cases e_BadOrder : c = "BadOrder"
  · subst e_BadOrder; simp (decide := true) at h h2; obtain ⟨rfl, rfl⟩ := h; subst h2; exact kitAll_at T.k_OverflowError 11 rfl
  by_cases e_BadMove : c = "BadMove"
  · subst e_BadMove; simp (decide := true) at h h2; obtain ⟨rfl, rfl⟩ := h; subst h2; exact kitAll_at T.k_OverflowError 12 rfl
  by_cases e_BadDeed : c = "BadDeed"
  · subst e_BadDeed; simp (decide := true) at h h2; obtain ⟨rfl, rfl⟩ := h; subst h2; exact kitAll_at T.k_OverflowError 13 rfl
  by_cases e_BadTheory : c = "BadTheory"
  · subst e_BadTheory; simp (decide := true) at h h2; obtain ⟨rfl, rfl⟩ := h; subst h2; exact kitAll_at T.k_OverflowError 14 rfl
  by_cases e_TooMany : c = "TooMany"
  · subst e_TooMany; simp (decide := true) at h h2; obtain ⟨rfl, rfl⟩ := h; subst h2; exact kitAll_at T.k_OverflowError 15 rfl
  by_cases e_NoSuch : c = "NoSuch"
  · subst e_NoSuch; simp (decide := true) at h h2; obtain ⟨rfl, rfl⟩ := h; subst h2; exact kitAll_at T.k_OverflowError 16 rfl
  simp (decide := true) [e_BadClaim, e_BadAssumptions, e_BadWorld, e_BadPoint, e_BadTerm, e_BadPaper, e_BadText, e_BadNumber, e_BadLetters, e_BadBook, e_BadForm, e_BadOrder, e_BadMove, e_BadDeed, e_BadTheory, e_TooMany, e_NoSuch] at h
theorem isx_ProofError (T : Tx K mg) : ∀ c A f b, T.C.c c = some (A, f) → t_isx "ProofError" c = some b → PySem.W.kitOne K (.ref A) (.ref T.A_ProofError) = some b := by
  intro c A f b h h2
  unfold Tx.C at h; dsimp only at h; unfold t_isx at h2
  by_cases e_BadClaim : c = "BadClaim"
  · subst e_BadClaim; simp (decide := true) at h h2; obtain ⟨rfl, rfl⟩ := h; subst h2; exact kitAll_at T.k_ProofError 0 rfl
  by_cases e_BadAssumptions : c = "BadAssumptions"
  · subst e_BadAssumptions; simp (decide := true) at h h2; obtain ⟨rfl, rfl⟩ := h; subst h2; exact kitAll_at T.k_ProofError 1 rfl
  by_cases e_BadWorld : c = "BadWorld"
  · subst e_BadWorld; simp (decide := true) at h h2; obtain ⟨rfl, rfl⟩ := h; subst h2; exact kitAll_at T.k_ProofError 2 rfl
  by_cases e_BadPoint : c = "BadPoint"
  · subst e_BadPoint; simp (decide := true) at h h2; obtain ⟨rfl, rfl⟩ := h; subst h2; exact kitAll_at T.k_ProofError 3 rfl
  by_cases e_BadTerm : c = "BadTerm"
  · subst e_BadTerm; simp (decide := true) at h h2; obtain ⟨rfl, rfl⟩ := h; subst h2; exact kitAll_at T.k_ProofError 4 rfl
  by_cases e_BadPaper : c = "BadPaper"
  · subst e_BadPaper; simp (decide := true) at h h2; obtain ⟨rfl, rfl⟩ := h; subst h2; exact kitAll_at T.k_ProofError 5 rfl
  by_cases e_BadText : c = "BadText"
  · subst e_BadText; simp (decide := true) at h h2; obtain ⟨rfl, rfl⟩ := h; subst h2; exact kitAll_at T.k_ProofError 6 rfl
  by_cases e_BadNumber : c = "BadNumber"
  · subst e_BadNumber; simp (decide := true) at h h2; obtain ⟨rfl, rfl⟩ := h; subst h2; exact kitAll_at T.k_ProofError 7 rfl
  by_cases e_BadLetters : c = "BadLetters"
  · subst e_BadLetters; simp (decide := true) at h h2; obtain ⟨rfl, rfl⟩ := h; subst h2; exact kitAll_at T.k_ProofError 8 rfl
  by_cases e_BadBook : c = "BadBook"
  · subst e_BadBook; simp (decide := true) at h h2; obtain ⟨rfl, rfl⟩ := h; subst h2; exact kitAll_at T.k_ProofError 9 rfl
  by_cases e_BadForm : c = "BadForm"
  · subst e_BadForm; simp (decide := true) at h h2; obtain ⟨rfl, rfl⟩ := h; subst h2; exact kitAll_at T.k_ProofError 10 rfl
  by_cases e_BadOrder : c = "BadOrder"
  · subst e_BadOrder; simp (decide := true) at h h2; obtain ⟨rfl, rfl⟩ := h; subst h2; exact kitAll_at T.k_ProofError 11 rfl
  by_cases e_BadMove : c = "BadMove"
  · subst e_BadMove; simp (decide := true) at h h2; obtain ⟨rfl, rfl⟩ := h; subst h2; exact kitAll_at T.k_ProofError 12 rfl
  by_cases e_BadDeed : c = "BadDeed"
  · subst e_BadDeed; simp (decide := true) at h h2; obtain ⟨rfl, rfl⟩ := h; subst h2; exact kitAll_at T.k_ProofError 13 rfl
  by_cases e_BadTheory : c = "BadTheory"
  · subst e_BadTheory; simp (decide := true) at h h2; obtain ⟨rfl, rfl⟩ := h; subst h2; exact kitAll_at T.k_ProofError 14 rfl
  by_cases e_TooMany : c = "TooMany"
  · subst e_TooMany; simp (decide := true) at h h2; obtain ⟨rfl, rfl⟩ := h; subst h2; exact kitAll_at T.k_ProofError 15 rfl
  by_cases e_NoSuch : c = "NoSuch"
  · subst e_NoSuch; simp (decide := true) at h h2; obtain ⟨rfl, rfl⟩ := h; subst h2; exact kitAll_at T.k_ProofError 16 rfl
  simp (decide := true) [e_BadClaim, e_BadAssumptions, e_BadWorld, e_BadPoint, e_BadTerm, e_BadPaper, e_BadText, e_BadNumber, e_BadLetters, e_BadBook, e_BadForm, e_BadOrder, e_BadMove, e_BadDeed, e_BadTheory, e_TooMany, e_NoSuch] at h
theorem isx_TooMany (T : Tx K mg) : ∀ c A f b, T.C.c c = some (A, f) → t_isx "TooMany" c = some b → PySem.W.kitOne K (.ref A) (.ref T.A_TooMany) = some b := by
  intro c A f b h h2
  unfold Tx.C at h; dsimp only at h; unfold t_isx at h2
  by_cases e_BadClaim : c = "BadClaim"
  · subst e_BadClaim; simp (decide := true) at h h2; obtain ⟨rfl, rfl⟩ := h; subst h2; exact kitAll_at T.k_TooMany 0 rfl
  by_cases e_BadAssumptions : c = "BadAssumptions"
  · subst e_BadAssumptions; simp (decide := true) at h h2; obtain ⟨rfl, rfl⟩ := h; subst h2; exact kitAll_at T.k_TooMany 1 rfl
  by_cases e_BadWorld : c = "BadWorld"
  · subst e_BadWorld; simp (decide := true) at h h2; obtain ⟨rfl, rfl⟩ := h; subst h2; exact kitAll_at T.k_TooMany 2 rfl
  by_cases e_BadPoint : c = "BadPoint"
  · subst e_BadPoint; simp (decide := true) at h h2; obtain ⟨rfl, rfl⟩ := h; subst h2; exact kitAll_at T.k_TooMany 3 rfl
  by_cases e_BadTerm : c = "BadTerm"
  · subst e_BadTerm; simp (decide := true) at h h2; obtain ⟨rfl, rfl⟩ := h; subst h2; exact kitAll_at T.k_TooMany 4 rfl
  by_cases e_BadPaper : c = "BadPaper"
  · subst e_BadPaper; simp (decide := true) at h h2; obtain ⟨rfl, rfl⟩ := h; subst h2; exact kitAll_at T.k_TooMany 5 rfl
  by_cases e_BadText : c = "BadText"
  · subst e_BadText; simp (decide := true) at h h2; obtain ⟨rfl, rfl⟩ := h; subst h2; exact kitAll_at T.k_TooMany 6 rfl
  by_cases e_BadNumber : c = "BadNumber"
  · subst e_BadNumber; simp (decide := true) at h h2; obtain ⟨rfl, rfl⟩ := h; subst h2; exact kitAll_at T.k_TooMany 7 rfl
  by_cases e_BadLetters : c = "BadLetters"
  · subst e_BadLetters; simp (decide := true) at h h2; obtain ⟨rfl, rfl⟩ := h; subst h2; exact kitAll_at T.k_TooMany 8 rfl
  by_cases e_BadBook : c = "BadBook"
  · subst e_BadBook; simp (decide := true) at h h2; obtain ⟨rfl, rfl⟩ := h; subst h2; exact kitAll_at T.k_TooMany 9 rfl
  by_cases e_BadForm : c = "BadForm"
  · subst e_BadForm; simp (decide := true) at h h2; obtain ⟨rfl, rfl⟩ := h; subst h2; exact kitAll_at T.k_TooMany 10 rfl
  by_cases e_BadOrder : c = "BadOrder"
  · subst e_BadOrder; simp (decide := true) at h h2; obtain ⟨rfl, rfl⟩ := h; subst h2; exact kitAll_at T.k_TooMany 11 rfl
  by_cases e_BadMove : c = "BadMove"
  · subst e_BadMove; simp (decide := true) at h h2; obtain ⟨rfl, rfl⟩ := h; subst h2; exact kitAll_at T.k_TooMany 12 rfl
  by_cases e_BadDeed : c = "BadDeed"
  · subst e_BadDeed; simp (decide := true) at h h2; obtain ⟨rfl, rfl⟩ := h; subst h2; exact kitAll_at T.k_TooMany 13 rfl
  by_cases e_BadTheory : c = "BadTheory"
  · subst e_BadTheory; simp (decide := true) at h h2; obtain ⟨rfl, rfl⟩ := h; subst h2; exact kitAll_at T.k_TooMany 14 rfl
  by_cases e_TooMany : c = "TooMany"
  · subst e_TooMany; simp (decide := true) at h h2; obtain ⟨rfl, rfl⟩ := h; subst h2; exact kitAll_at T.k_TooMany 15 rfl
  by_cases e_NoSuch : c = "NoSuch"
  · subst e_NoSuch; simp (decide := true) at h h2; obtain ⟨rfl, rfl⟩ := h; subst h2; exact kitAll_at T.k_TooMany 16 rfl
  simp (decide := true) [e_BadClaim, e_BadAssumptions, e_BadWorld, e_BadPoint, e_BadTerm, e_BadPaper, e_BadText, e_BadNumber, e_BadLetters, e_BadBook, e_BadForm, e_BadOrder, e_BadMove, e_BadDeed, e_BadTheory, e_TooMany, e_NoSuch] at h
theorem isx_ValueError (T : Tx K mg) : ∀ c A f b, T.C.c c = some (A, f) → t_isx "ValueError" c = some b → PySem.W.kitOne K (.ref A) (.type "ValueError") = some b := by
  intro c A f b h h2
  unfold Tx.C at h; dsimp only at h; unfold t_isx at h2
  by_cases e_BadClaim : c = "BadClaim"
  · subst e_BadClaim; simp (decide := true) at h h2; obtain ⟨rfl, rfl⟩ := h; subst h2; exact kitAll_at T.k_ValueError 0 rfl
  by_cases e_BadAssumptions : c = "BadAssumptions"
  · subst e_BadAssumptions; simp (decide := true) at h h2; obtain ⟨rfl, rfl⟩ := h; subst h2; exact kitAll_at T.k_ValueError 1 rfl
  by_cases e_BadWorld : c = "BadWorld"
  · subst e_BadWorld; simp (decide := true) at h h2; obtain ⟨rfl, rfl⟩ := h; subst h2; exact kitAll_at T.k_ValueError 2 rfl
  by_cases e_BadPoint : c = "BadPoint"
  · subst e_BadPoint; simp (decide := true) at h h2; obtain ⟨rfl, rfl⟩ := h; subst h2; exact kitAll_at T.k_ValueError 3 rfl
  by_cases e_BadTerm : c = "BadTerm"
  · subst e_BadTerm; simp (decide := true) at h h2; obtain ⟨rfl, rfl⟩ := h; subst h2; exact kitAll_at T.k_ValueError 4 rfl
  by_cases e_BadPaper : c = "BadPaper"
  · subst e_BadPaper; simp (decide := true) at h h2; obtain ⟨rfl, rfl⟩ := h; subst h2; exact kitAll_at T.k_ValueError 5 rfl
  by_cases e_BadText : c = "BadText"
  · subst e_BadText; simp (decide := true) at h h2; obtain ⟨rfl, rfl⟩ := h; subst h2; exact kitAll_at T.k_ValueError 6 rfl
  by_cases e_BadNumber : c = "BadNumber"
  · subst e_BadNumber; simp (decide := true) at h h2; obtain ⟨rfl, rfl⟩ := h; subst h2; exact kitAll_at T.k_ValueError 7 rfl
  by_cases e_BadLetters : c = "BadLetters"
  · subst e_BadLetters; simp (decide := true) at h h2; obtain ⟨rfl, rfl⟩ := h; subst h2; exact kitAll_at T.k_ValueError 8 rfl
  by_cases e_BadBook : c = "BadBook"
  · subst e_BadBook; simp (decide := true) at h h2; obtain ⟨rfl, rfl⟩ := h; subst h2; exact kitAll_at T.k_ValueError 9 rfl
  by_cases e_BadForm : c = "BadForm"
  · subst e_BadForm; simp (decide := true) at h h2; obtain ⟨rfl, rfl⟩ := h; subst h2; exact kitAll_at T.k_ValueError 10 rfl
  by_cases e_BadOrder : c = "BadOrder"
  · subst e_BadOrder; simp (decide := true) at h h2; obtain ⟨rfl, rfl⟩ := h; subst h2; exact kitAll_at T.k_ValueError 11 rfl
  by_cases e_BadMove : c = "BadMove"
  · subst e_BadMove; simp (decide := true) at h h2; obtain ⟨rfl, rfl⟩ := h; subst h2; exact kitAll_at T.k_ValueError 12 rfl
  by_cases e_BadDeed : c = "BadDeed"
  · subst e_BadDeed; simp (decide := true) at h h2; obtain ⟨rfl, rfl⟩ := h; subst h2; exact kitAll_at T.k_ValueError 13 rfl
  by_cases e_BadTheory : c = "BadTheory"
  · subst e_BadTheory; simp (decide := true) at h h2; obtain ⟨rfl, rfl⟩ := h; subst h2; exact kitAll_at T.k_ValueError 14 rfl
  by_cases e_TooMany : c = "TooMany"
  · subst e_TooMany; simp (decide := true) at h h2; obtain ⟨rfl, rfl⟩ := h; subst h2; exact kitAll_at T.k_ValueError 15 rfl
  by_cases e_NoSuch : c = "NoSuch"
  · subst e_NoSuch; simp (decide := true) at h h2; obtain ⟨rfl, rfl⟩ := h; subst h2; exact kitAll_at T.k_ValueError 16 rfl
  simp (decide := true) [e_BadClaim, e_BadAssumptions, e_BadWorld, e_BadPoint, e_BadTerm, e_BadPaper, e_BadText, e_BadNumber, e_BadLetters, e_BadBook, e_BadForm, e_BadOrder, e_BadMove, e_BadDeed, e_BadTheory, e_TooMany, e_NoSuch] at h
theorem init_BadClaim (T : Tx K mg) : FnOk P w K mg base (L2.CX P w) 1 T.I_BadClaim T.dI_BadClaim ["self", "place"] (spE T.A_BadClaim "place" "no such claim") := init_okG T.E_BadClaim (hcO T.gA_ProofError T.EO_BadClaim PySem.DLE.eb_VE rfl (by decide) (fun _ => rfl) (fun _ => rfl) (fun _ => rfl)) T.FI_BadClaim ⟨rfl, rfl, rfl, by decide +kernel, rfl, by decide +kernel, by decide +kernel⟩ rfl (by decide) (by decide) (fun _ => rfl) (fun _ => rfl) (fun _ => rfl) (fun _ => rfl)
theorem init_BadAssumptions (T : Tx K mg) : FnOk P w K mg base (L2.CX P w) 1 T.I_BadAssumptions T.dI_BadAssumptions ["self", "place"] (spE T.A_BadAssumptions "place" "no such assumptions") := init_okG T.E_BadAssumptions (hcO T.gA_ProofError T.EO_BadAssumptions PySem.DLE.eb_VE rfl (by decide) (fun _ => rfl) (fun _ => rfl) (fun _ => rfl)) T.FI_BadAssumptions ⟨rfl, rfl, rfl, by decide +kernel, rfl, by decide +kernel, by decide +kernel⟩ rfl (by decide) (by decide) (fun _ => rfl) (fun _ => rfl) (fun _ => rfl) (fun _ => rfl)
theorem init_BadWorld (T : Tx K mg) : FnOk P w K mg base (L2.CX P w) 1 T.I_BadWorld T.dI_BadWorld ["self", "place"] (spE T.A_BadWorld "place" "no such world") := init_okG T.E_BadWorld (hcO T.gA_ProofError T.EO_BadWorld PySem.DLE.eb_VE rfl (by decide) (fun _ => rfl) (fun _ => rfl) (fun _ => rfl)) T.FI_BadWorld ⟨rfl, rfl, rfl, by decide +kernel, rfl, by decide +kernel, by decide +kernel⟩ rfl (by decide) (by decide) (fun _ => rfl) (fun _ => rfl) (fun _ => rfl) (fun _ => rfl)
theorem init_BadPoint (T : Tx K mg) : FnOk P w K mg base (L2.CX P w) 1 T.I_BadPoint T.dI_BadPoint ["self", "value"] (spE T.A_BadPoint "value" "no such point") := init_okG T.E_BadPoint (hcO T.gA_ProofError T.EO_BadPoint PySem.DLE.eb_VE rfl (by decide) (fun _ => rfl) (fun _ => rfl) (fun _ => rfl)) T.FI_BadPoint ⟨rfl, rfl, rfl, by decide +kernel, rfl, by decide +kernel, by decide +kernel⟩ rfl (by decide) (by decide) (fun _ => rfl) (fun _ => rfl) (fun _ => rfl) (fun _ => rfl)
theorem init_BadTerm (T : Tx K mg) : FnOk P w K mg base (L2.CX P w) 1 T.I_BadTerm T.dI_BadTerm ["self", "place"] (spE T.A_BadTerm "place" "no such term") := init_okG T.E_BadTerm (hcO T.gA_ProofError T.EO_BadTerm PySem.DLE.eb_VE rfl (by decide) (fun _ => rfl) (fun _ => rfl) (fun _ => rfl)) T.FI_BadTerm ⟨rfl, rfl, rfl, by decide +kernel, rfl, by decide +kernel, by decide +kernel⟩ rfl (by decide) (by decide) (fun _ => rfl) (fun _ => rfl) (fun _ => rfl) (fun _ => rfl)
theorem init_BadPaper (T : Tx K mg) : FnOk P w K mg base (L2.CX P w) 1 T.I_BadPaper T.dI_BadPaper ["self", "place"] (spE T.A_BadPaper "place" "no such paper") := init_okG T.E_BadPaper (hcO T.gA_ProofError T.EO_BadPaper PySem.DLE.eb_VE rfl (by decide) (fun _ => rfl) (fun _ => rfl) (fun _ => rfl)) T.FI_BadPaper ⟨rfl, rfl, rfl, by decide +kernel, rfl, by decide +kernel, by decide +kernel⟩ rfl (by decide) (by decide) (fun _ => rfl) (fun _ => rfl) (fun _ => rfl) (fun _ => rfl)
theorem init_BadText (T : Tx K mg) : FnOk P w K mg base (L2.CX P w) 1 T.I_BadText T.dI_BadText ["self", "place"] (spE T.A_BadText "place" "no such text") := init_okG T.E_BadText (hcO T.gA_ProofError T.EO_BadText PySem.DLE.eb_VE rfl (by decide) (fun _ => rfl) (fun _ => rfl) (fun _ => rfl)) T.FI_BadText ⟨rfl, rfl, rfl, by decide +kernel, rfl, by decide +kernel, by decide +kernel⟩ rfl (by decide) (by decide) (fun _ => rfl) (fun _ => rfl) (fun _ => rfl) (fun _ => rfl)
theorem init_BadNumber (T : Tx K mg) : FnOk P w K mg base (L2.CX P w) 1 T.I_BadNumber T.dI_BadNumber ["self", "value"] (spE T.A_BadNumber "value" "no such number") := init_okG T.E_BadNumber (hcO T.gA_ProofError T.EO_BadNumber PySem.DLE.eb_VE rfl (by decide) (fun _ => rfl) (fun _ => rfl) (fun _ => rfl)) T.FI_BadNumber ⟨rfl, rfl, rfl, by decide +kernel, rfl, by decide +kernel, by decide +kernel⟩ rfl (by decide) (by decide) (fun _ => rfl) (fun _ => rfl) (fun _ => rfl) (fun _ => rfl)
theorem init_BadLetters (T : Tx K mg) : FnOk P w K mg base (L2.CX P w) 1 T.I_BadLetters T.dI_BadLetters ["self", "value"] (spE T.A_BadLetters "value" "no such letters") := init_okG T.E_BadLetters (hcO T.gA_ProofError T.EO_BadLetters PySem.DLE.eb_VE rfl (by decide) (fun _ => rfl) (fun _ => rfl) (fun _ => rfl)) T.FI_BadLetters ⟨rfl, rfl, rfl, by decide +kernel, rfl, by decide +kernel, by decide +kernel⟩ rfl (by decide) (by decide) (fun _ => rfl) (fun _ => rfl) (fun _ => rfl) (fun _ => rfl)
theorem init_BadBook (T : Tx K mg) : FnOk P w K mg base (L2.CX P w) 1 T.I_BadBook T.dI_BadBook ["self", "place"] (spE T.A_BadBook "place" "no such book") := init_okG T.E_BadBook (hcO T.gA_ProofError T.EO_BadBook PySem.DLE.eb_VE rfl (by decide) (fun _ => rfl) (fun _ => rfl) (fun _ => rfl)) T.FI_BadBook ⟨rfl, rfl, rfl, by decide +kernel, rfl, by decide +kernel, by decide +kernel⟩ rfl (by decide) (by decide) (fun _ => rfl) (fun _ => rfl) (fun _ => rfl) (fun _ => rfl)
theorem init_BadForm (T : Tx K mg) : FnOk P w K mg base (L2.CX P w) 1 T.I_BadForm T.dI_BadForm ["self", "place"] (spE T.A_BadForm "place" "no such form") := init_okG T.E_BadForm (hcO T.gA_ProofError T.EO_BadForm PySem.DLE.eb_VE rfl (by decide) (fun _ => rfl) (fun _ => rfl) (fun _ => rfl)) T.FI_BadForm ⟨rfl, rfl, rfl, by decide +kernel, rfl, by decide +kernel, by decide +kernel⟩ rfl (by decide) (by decide) (fun _ => rfl) (fun _ => rfl) (fun _ => rfl) (fun _ => rfl)
theorem init_BadOrder (T : Tx K mg) : FnOk P w K mg base (L2.CX P w) 1 T.I_BadOrder T.dI_BadOrder ["self", "place"] (spE T.A_BadOrder "place" "no such order") := init_okG T.E_BadOrder (hcO T.gA_ProofError T.EO_BadOrder PySem.DLE.eb_VE rfl (by decide) (fun _ => rfl) (fun _ => rfl) (fun _ => rfl)) T.FI_BadOrder ⟨rfl, rfl, rfl, by decide +kernel, rfl, by decide +kernel, by decide +kernel⟩ rfl (by decide) (by decide) (fun _ => rfl) (fun _ => rfl) (fun _ => rfl) (fun _ => rfl)
theorem init_BadMove (T : Tx K mg) : FnOk P w K mg base (L2.CX P w) 1 T.I_BadMove T.dI_BadMove ["self", "place"] (spE T.A_BadMove "place" "no such move") := init_okG T.E_BadMove (hcO T.gA_ProofError T.EO_BadMove PySem.DLE.eb_VE rfl (by decide) (fun _ => rfl) (fun _ => rfl) (fun _ => rfl)) T.FI_BadMove ⟨rfl, rfl, rfl, by decide +kernel, rfl, by decide +kernel, by decide +kernel⟩ rfl (by decide) (by decide) (fun _ => rfl) (fun _ => rfl) (fun _ => rfl) (fun _ => rfl)
theorem init_BadDeed (T : Tx K mg) : FnOk P w K mg base (L2.CX P w) 1 T.I_BadDeed T.dI_BadDeed ["self", "place"] (spE T.A_BadDeed "place" "no such deed") := init_okG T.E_BadDeed (hcO T.gA_ProofError T.EO_BadDeed PySem.DLE.eb_VE rfl (by decide) (fun _ => rfl) (fun _ => rfl) (fun _ => rfl)) T.FI_BadDeed ⟨rfl, rfl, rfl, by decide +kernel, rfl, by decide +kernel, by decide +kernel⟩ rfl (by decide) (by decide) (fun _ => rfl) (fun _ => rfl) (fun _ => rfl) (fun _ => rfl)
theorem init_BadTheory (T : Tx K mg) : FnOk P w K mg base (L2.CX P w) 1 T.I_BadTheory T.dI_BadTheory ["self", "place"] (spE T.A_BadTheory "place" "no such theory") := init_okG T.E_BadTheory (hcO T.gA_ProofError T.EO_BadTheory PySem.DLE.eb_VE rfl (by decide) (fun _ => rfl) (fun _ => rfl) (fun _ => rfl)) T.FI_BadTheory ⟨rfl, rfl, rfl, by decide +kernel, rfl, by decide +kernel, by decide +kernel⟩ rfl (by decide) (by decide) (fun _ => rfl) (fun _ => rfl) (fun _ => rfl) (fun _ => rfl)
theorem init_TooMany (T : Tx K mg) : FnOk P w K mg base (L2.CX P w) 1 T.I_TooMany T.dI_TooMany ["self", "most"] (spE T.A_TooMany "most" "too many") := init_okG T.E_TooMany (hcB (B := "OverflowError") T.b_OverflowError T.EO_TooMany PySem.DLE.eb_OE rfl (by decide) (by decide) (fun _ => rfl) (fun _ => rfl) (fun _ => rfl)) T.FI_TooMany ⟨rfl, rfl, rfl, by decide +kernel, rfl, by decide +kernel, by decide +kernel⟩ rfl (by decide) (by decide) (fun _ => rfl) (fun _ => rfl) (fun _ => rfl) (fun _ => rfl)
theorem init_NoSuch (T : Tx K mg) : FnOk P w K mg base (L2.CX P w) 1 T.I_NoSuch T.dI_NoSuch ["self", "value"] (spE T.A_NoSuch "value" "nothing so called") := init_okG T.E_NoSuch (hcB (B := "LookupError") T.b_LookupError T.EO_NoSuch PySem.DLE.eb_LE rfl (by decide) (by decide) (fun _ => rfl) (fun _ => rfl) (fun _ => rfl)) T.FI_NoSuch ⟨rfl, rfl, rfl, by decide +kernel, rfl, by decide +kernel, by decide +kernel⟩ rfl (by decide) (by decide) (fun _ => rfl) (fun _ => rfl) (fun _ => rfl) (fun _ => rfl)
theorem st_ok (T : Tx K mg) : ∀ c A f, T.C.c c = some (A, f) → StC K A := by
  intro c A f h
  unfold Tx.C at h; dsimp only at h
  by_cases e_BadClaim : c = "BadClaim"
  · subst e_BadClaim; simp (decide := true) at h; obtain ⟨rfl, rfl⟩ := h; exact T.ES_BadClaim
  by_cases e_BadAssumptions : c = "BadAssumptions"
  · subst e_BadAssumptions; simp (decide := true) at h; obtain ⟨rfl, rfl⟩ := h; exact T.ES_BadAssumptions
  by_cases e_BadWorld : c = "BadWorld"
  · subst e_BadWorld; simp (decide := true) at h; obtain ⟨rfl, rfl⟩ := h; exact T.ES_BadWorld
  by_cases e_BadPoint : c = "BadPoint"
  · subst e_BadPoint; simp (decide := true) at h; obtain ⟨rfl, rfl⟩ := h; exact T.ES_BadPoint
  by_cases e_BadTerm : c = "BadTerm"
  · subst e_BadTerm; simp (decide := true) at h; obtain ⟨rfl, rfl⟩ := h; exact T.ES_BadTerm
  by_cases e_BadPaper : c = "BadPaper"
  · subst e_BadPaper; simp (decide := true) at h; obtain ⟨rfl, rfl⟩ := h; exact T.ES_BadPaper
  by_cases e_BadText : c = "BadText"
  · subst e_BadText; simp (decide := true) at h; obtain ⟨rfl, rfl⟩ := h; exact T.ES_BadText
  by_cases e_BadNumber : c = "BadNumber"
  · subst e_BadNumber; simp (decide := true) at h; obtain ⟨rfl, rfl⟩ := h; exact T.ES_BadNumber
  by_cases e_BadLetters : c = "BadLetters"
  · subst e_BadLetters; simp (decide := true) at h; obtain ⟨rfl, rfl⟩ := h; exact T.ES_BadLetters
  by_cases e_BadBook : c = "BadBook"
  · subst e_BadBook; simp (decide := true) at h; obtain ⟨rfl, rfl⟩ := h; exact T.ES_BadBook
  by_cases e_BadForm : c = "BadForm"
  · subst e_BadForm; simp (decide := true) at h; obtain ⟨rfl, rfl⟩ := h; exact T.ES_BadForm
  by_cases e_BadOrder : c = "BadOrder"
  · subst e_BadOrder; simp (decide := true) at h; obtain ⟨rfl, rfl⟩ := h; exact T.ES_BadOrder
  by_cases e_BadMove : c = "BadMove"
  · subst e_BadMove; simp (decide := true) at h; obtain ⟨rfl, rfl⟩ := h; exact T.ES_BadMove
  by_cases e_BadDeed : c = "BadDeed"
  · subst e_BadDeed; simp (decide := true) at h; obtain ⟨rfl, rfl⟩ := h; exact T.ES_BadDeed
  by_cases e_BadTheory : c = "BadTheory"
  · subst e_BadTheory; simp (decide := true) at h; obtain ⟨rfl, rfl⟩ := h; exact T.ES_BadTheory
  by_cases e_TooMany : c = "TooMany"
  · subst e_TooMany; simp (decide := true) at h; obtain ⟨rfl, rfl⟩ := h; exact T.ES_TooMany
  by_cases e_NoSuch : c = "NoSuch"
  · subst e_NoSuch; simp (decide := true) at h; obtain ⟨rfl, rfl⟩ := h; exact T.ES_NoSuch
  simp (decide := true) [e_BadClaim, e_BadAssumptions, e_BadWorld, e_BadPoint, e_BadTerm, e_BadPaper, e_BadText, e_BadNumber, e_BadLetters, e_BadBook, e_BadForm, e_BadOrder, e_BadMove, e_BadDeed, e_BadTheory, e_TooMany, e_NoSuch] at h
theorem units_of {k : Nat} {A : Around} (hr : Room k A) : A.units + 64 < cLine := by have := hr.un; omega
theorem units_of1 {k : Nat} {A : Around} (hr : Room k A) : A.units + 65 < cLine := by have := hr.un; omega
end K99
end
section
set_option Elab.async false
set_option linter.all false
set_option maxRecDepth 100000
set_option maxHeartbeats 1000000
set_option autoImplicit false
namespace K99
open PySem PySem.Spec PyProof.Rows L2 DL
variable [TN] {P : Program} {w : World} {K : PySem.W.Frag} {mg : Str → Option Value} {base : Heap}
/-! _law_draw -/
theorem sc__law_draw : FnScope ["cell", "k"] ["cell", "k"] (defScope (top 21)) := ⟨rfl, rfl, rfl, by decide +kernel, rfl, by decide +kernel, by decide +kernel⟩
theorem ok__law_draw (T : Tx K mg) : FnG P w K mg base (L2.CX P w) false 1 T.a__law_draw T.d__law_draw ["cell", "k"] (spW (rK K T.C) K T.C (mW2 m__law_draw)) :=
  fnW2 (fun _ _ => rfl) T.F__law_draw sc__law_draw (by decide) fun cdv A outer s H E F0 gd hcd hT hr v_cell v_k => by
    have nd := sc__law_draw.nd
    have hu := units_of hr
    have hv := units_of1 hr
    unfold B__law_draw
    exact (cb_retW (ck_disp (cdp_cons (cg_if (ct_cmp od_ge (ce_var 0) (cg_bin od_pow ce_int ce_int) (nomark _)) (ce_var 0) ce_int) (cdp_cons (ce_var 0) (cdp_cons (cg_bin od_mulA ce_int (ce_var 1)) cdp_nil)))))
end K99
end
section
set_option Elab.async false
set_option linter.all false
set_option maxRecDepth 100000
set_option maxHeartbeats 1000000
set_option autoImplicit false
namespace K99
open PySem PySem.Spec PyProof.Rows L2 DL
variable [TN] {P : Program} {w : World} {K : PySem.W.Frag} {mg : Str → Option Value} {base : Heap}
/-! _law_mixed -/
theorem sc__law_mixed : FnScope ["cell", "k", "number"] ["cell", "k"] (defScope (top 20)) := ⟨rfl, rfl, rfl, by decide +kernel, rfl, by decide +kernel, by decide +kernel⟩
theorem ok__law_mixed (T : Tx K mg) : FnG P w K mg base (L2.CX P w) false 1 T.a__law_mixed T.d__law_mixed ["cell", "k"] (spD K T.C (m2 m__law_mixed)) :=
  fn2 (fun _ _ => rfl) T.F__law_mixed sc__law_mixed (by decide) fun cdv A outer s H E F0 gd hcd hT hr v_cell v_k => by
    have nd := sc__law_mixed.nd
    have hu := units_of hr
    have hv := units_of1 hr
    unfold B__law_mixed
    exact (cb_set 2 (cg_bin od_add (cg_bin od_add (cg_bin od_mod (ce_var 0) (cg_ix xd_lidx (CM.l (CN.m (cn_lstA (ca_cons ce_int (ca_cons ce_int (ca_cons ce_int (ca_cons ce_int ca_nil))))))) (cg_bin od_mod (ce_var 1) ce_int))) (cg_bin od_mulA ce_int (ce_var 1))) ce_int) (fun v0 => (cb_ret (cg_bin od_mod (cg_bin od_mulA (cg_bin od_mod (cg_bin od_mulA (ce_var 2) (ce_var 2)) ce_int) ce_int) ce_int))) nd)
end K99
end
section
set_option Elab.async false
set_option linter.all false
set_option maxRecDepth 100000
set_option maxHeartbeats 1000000
set_option autoImplicit false
namespace K99
open PySem PySem.Spec PyProof.Rows L2 DL
variable [TN] {P : Program} {w : World} {K : PySem.W.Frag} {mg : Str → Option Value} {base : Heap}
/-! _law_digit -/
theorem sc__law_digit : FnScope ["state", "below", "j", "found"] ["state", "below"] (defScope (top 22)) := ⟨rfl, rfl, rfl, by decide +kernel, rfl, by decide +kernel, by decide +kernel⟩
theorem ok__law_digit (T : Tx K mg) : FnG P w K mg base (L2.CX P w) false 2 T.a__law_digit T.d__law_digit ["state", "below"] (spS K T.C (mS1 m__law_digit)) :=
  fnS1 (fun _ _ => rfl) T.F__law_digit sc__law_digit (by decide) fun cdv A outer s H E F0 gd hcd ad hT hr st v_below => by
    have nd := sc__law_digit.nd
    have hu := units_of hr
    have hv := units_of1 hr
    unfold B__law_digit
    exact (cb_cons (γ1 := (fun s1 : DK => [.k ad s1, .d v_below, .no, .no])) (cs_if (ct_cmp (od_eq hu) (CE.r (ce_dget 0 ce_str hu (hs := fun _ _ => rfl))) (CE.r ce_int) (nomark _)) (cb_cons (cs_for (γ := (fun s2 : DK => [.k ad s2, .d v_below, .no, .no])) 2 (st) (ci_range1 ce_int T.b_range) (.keep (.keep (.keep (.keep .nil)))) (fun s2 i3 => (cb_dput 0 (cg_bin od_add (ce_dget 0 ce_str hu (hs := fun _ _ => rfl)) ce_int) ce_str hu (fun v4 => (cb_dput 0 (cg_bin od_add (cg_bin od_mulA (ce_dget 0 ce_str hu (hs := fun _ _ => rfl)) ce_int) (ce_callA (ok__law_mixed T) nob (hr.mono (by decide)) T.g__law_mixed T.F__law_mixed.kp T.B__law_mixed .nil (fun _ => .nil) (ca_cons (ce_dget 0 ce_str hu (hs := fun _ _ => rfl)) (ca_cons (ce_dget 0 ce_str hu (hs := fun _ _ => rfl)) ca_nil)))) ce_str hu (fun v5 => (cb_nil (v5) (.keep (.keep (.drop (.keep .nil)))))))))) (passes_of rfl) rfl nd) (fun s2 => (cb_nil (s2) (.keep (.keep (.keep (.keep .nil))))))) (cb_nil (st) (.keep (.keep (.keep (.keep .nil)))))) (fun s1 => (cb_set 3 (cg_bin od_mod (ce_dget 0 ce_str hu (hs := fun _ _ => rfl)) (ce_var 1)) (fun v6 => (cb_dput 0 (cg_bin od_fdiv (ce_dget 0 ce_str hu (hs := fun _ _ => rfl)) (ce_var 1)) ce_str hu (fun v7 => (cb_retS 0 (CG.st 0 (ce_var 3)))))) nd)))
end K99
end
section
set_option Elab.async false
set_option linter.all false
set_option maxRecDepth 100000
set_option maxHeartbeats 1000000
set_option autoImplicit false
namespace K99
open PySem PySem.Spec PyProof.Rows L2 DL
variable [TN] {P : Program} {w : World} {K : PySem.W.Frag} {mg : Str → Option Value} {base : Heap}
/-! _law_valued -/
theorem sc__law_valued : FnScope ["thing", "found"] ["thing"] (defScope (top 24)) := ⟨rfl, rfl, rfl, by decide +kernel, rfl, by decide +kernel, by decide +kernel⟩
theorem ok__law_valued (T : Tx K mg) : FnG P w K mg base (L2.CX P w) false 3 T.a__law_valued T.d__law_valued ["thing"] (spD K T.C (m1 m__law_valued)) :=
  fn1 (fun _ => rfl) T.F__law_valued sc__law_valued (by decide) fun cdv A outer s H E F0 gd hcd hT hr v_thing => by
    have nd := sc__law_valued.nd
    have hu := units_of hr
    have hv := units_of1 hr
    unfold B__law_valued
    exact (cb_setN 1 (cn_lst2 (ce_tup3 (ce_errP (ce_var 0) T.E_BadPoint rfl (fun _ h => (Option.some.inj h).symm) (init_BadPoint T) (hr.mono (by decide)) T.EB_BadPoint) (ce_errK (ce_var 0) T.E_BadPoint rfl (fun _ h => (Option.some.inj h).symm) (init_BadPoint T) (hr.mono (by decide)) T.EB_BadPoint) ce_str) (ce_tup3 (ce_errP (ce_var 0) T.E_BadNumber rfl (fun _ h => (Option.some.inj h).symm) (init_BadNumber T) (hr.mono (by decide)) T.EB_BadNumber) (ce_errK (ce_var 0) T.E_BadNumber rfl (fun _ h => (Option.some.inj h).symm) (init_BadNumber T) (hr.mono (by decide)) T.EB_BadNumber) ce_str)) (fun v85 => (cb_ret (CN.fz (cg_bin od_lcat (cm_var 1) (CN.m (cn_lst1 (ce_tup3 (ce_errP (ce_var 0) T.E_BadLetters rfl (fun _ h => (Option.some.inj h).symm) (init_BadLetters T) (hr.mono (by decide)) T.EB_BadLetters) (ce_errK (ce_var 0) T.E_BadLetters rfl (fun _ h => (Option.some.inj h).symm) (init_BadLetters T) (hr.mono (by decide)) T.EB_BadLetters) ce_str))))))) nd)
end K99
end
section
set_option Elab.async false
set_option linter.all false
set_option maxRecDepth 100000
set_option maxHeartbeats 1000000
set_option autoImplicit false
namespace K99
open PySem PySem.Spec PyProof.Rows L2 DL
variable [TN] {P : Program} {w : World} {K : PySem.W.Frag} {mg : Str → Option Value} {base : Heap}
/-! _law_placed -/
theorem sc__law_placed : FnScope ["thing", "found"] ["thing"] (defScope (top 25)) := ⟨rfl, rfl, rfl, by decide +kernel, rfl, by decide +kernel, by decide +kernel⟩
theorem ok__law_placed (T : Tx K mg) : FnG P w K mg base (L2.CX P w) false 3 T.a__law_placed T.d__law_placed ["thing"] (spD K T.C (m1 m__law_placed)) :=
  fn1 (fun _ => rfl) T.F__law_placed sc__law_placed (by decide) fun cdv A outer s H E F0 gd hcd hT hr v_thing => by
    have nd := sc__law_placed.nd
    have hu := units_of hr
    have hv := units_of1 hr
    unfold B__law_placed
    exact (cb_setN 1 (cn_lst2 (ce_tup3 (ce_errP (ce_var 0) T.E_BadClaim rfl (fun _ h => (Option.some.inj h).symm) (init_BadClaim T) (hr.mono (by decide)) T.EB_BadClaim) (ce_errK (ce_var 0) T.E_BadClaim rfl (fun _ h => (Option.some.inj h).symm) (init_BadClaim T) (hr.mono (by decide)) T.EB_BadClaim) ce_str) (ce_tup3 (ce_errP (ce_var 0) T.E_BadBook rfl (fun _ h => (Option.some.inj h).symm) (init_BadBook T) (hr.mono (by decide)) T.EB_BadBook) (ce_errK (ce_var 0) T.E_BadBook rfl (fun _ h => (Option.some.inj h).symm) (init_BadBook T) (hr.mono (by decide)) T.EB_BadBook) ce_str)) (fun v98 => (cb_setN 1 (cg_bin od_lcat (cm_var 1) (CN.m (cn_lst1 (ce_tup3 (ce_errP (ce_var 0) T.E_BadAssumptions rfl (fun _ h => (Option.some.inj h).symm) (init_BadAssumptions T) (hr.mono (by decide)) T.EB_BadAssumptions) (ce_errK (ce_var 0) T.E_BadAssumptions rfl (fun _ h => (Option.some.inj h).symm) (init_BadAssumptions T) (hr.mono (by decide)) T.EB_BadAssumptions) ce_str)))) (fun v107 => (cb_setN 1 (cg_bin od_lcat (cm_var 1) (CN.m (cn_lst2 (ce_tup3 (ce_errP (ce_var 0) T.E_BadWorld rfl (fun _ h => (Option.some.inj h).symm) (init_BadWorld T) (hr.mono (by decide)) T.EB_BadWorld) (ce_errK (ce_var 0) T.E_BadWorld rfl (fun _ h => (Option.some.inj h).symm) (init_BadWorld T) (hr.mono (by decide)) T.EB_BadWorld) ce_str) (ce_tup3 (ce_errP (ce_var 0) T.E_BadTerm rfl (fun _ h => (Option.some.inj h).symm) (init_BadTerm T) (hr.mono (by decide)) T.EB_BadTerm) (ce_errK (ce_var 0) T.E_BadTerm rfl (fun _ h => (Option.some.inj h).symm) (init_BadTerm T) (hr.mono (by decide)) T.EB_BadTerm) ce_str)))) (fun v112 => (cb_setN 1 (cg_bin od_lcat (cm_var 1) (CN.m (cn_lst2 (ce_tup3 (ce_errP (ce_var 0) T.E_BadPaper rfl (fun _ h => (Option.some.inj h).symm) (init_BadPaper T) (hr.mono (by decide)) T.EB_BadPaper) (ce_errK (ce_var 0) T.E_BadPaper rfl (fun _ h => (Option.some.inj h).symm) (init_BadPaper T) (hr.mono (by decide)) T.EB_BadPaper) ce_str) (ce_tup3 (ce_errP (ce_var 0) T.E_BadText rfl (fun _ h => (Option.some.inj h).symm) (init_BadText T) (hr.mono (by decide)) T.EB_BadText) (ce_errK (ce_var 0) T.E_BadText rfl (fun _ h => (Option.some.inj h).symm) (init_BadText T) (hr.mono (by decide)) T.EB_BadText) ce_str)))) (fun v121 => (cb_setN 1 (cg_bin od_lcat (cm_var 1) (CN.m (cn_lst2 (ce_tup3 (ce_errP (ce_var 0) T.E_BadForm rfl (fun _ h => (Option.some.inj h).symm) (init_BadForm T) (hr.mono (by decide)) T.EB_BadForm) (ce_errK (ce_var 0) T.E_BadForm rfl (fun _ h => (Option.some.inj h).symm) (init_BadForm T) (hr.mono (by decide)) T.EB_BadForm) ce_str) (ce_tup3 (ce_errP (ce_var 0) T.E_BadOrder rfl (fun _ h => (Option.some.inj h).symm) (init_BadOrder T) (hr.mono (by decide)) T.EB_BadOrder) (ce_errK (ce_var 0) T.E_BadOrder rfl (fun _ h => (Option.some.inj h).symm) (init_BadOrder T) (hr.mono (by decide)) T.EB_BadOrder) ce_str)))) (fun v130 => (cb_setN 1 (cg_bin od_lcat (cm_var 1) (CN.m (cn_lst2 (ce_tup3 (ce_errP (ce_var 0) T.E_BadMove rfl (fun _ h => (Option.some.inj h).symm) (init_BadMove T) (hr.mono (by decide)) T.EB_BadMove) (ce_errK (ce_var 0) T.E_BadMove rfl (fun _ h => (Option.some.inj h).symm) (init_BadMove T) (hr.mono (by decide)) T.EB_BadMove) ce_str) (ce_tup3 (ce_errP (ce_var 0) T.E_BadDeed rfl (fun _ h => (Option.some.inj h).symm) (init_BadDeed T) (hr.mono (by decide)) T.EB_BadDeed) (ce_errK (ce_var 0) T.E_BadDeed rfl (fun _ h => (Option.some.inj h).symm) (init_BadDeed T) (hr.mono (by decide)) T.EB_BadDeed) ce_str)))) (fun v139 => (cb_ret (CN.fz (cg_bin od_lcat (cm_var 1) (CN.m (cn_lst1 (ce_tup3 (ce_errP (ce_var 0) T.E_BadTheory rfl (fun _ h => (Option.some.inj h).symm) (init_BadTheory T) (hr.mono (by decide)) T.EB_BadTheory) (ce_errK (ce_var 0) T.E_BadTheory rfl (fun _ h => (Option.some.inj h).symm) (init_BadTheory T) (hr.mono (by decide)) T.EB_BadTheory) ce_str))))))) nd)) nd)) nd)) nd)) nd)) nd)
end K99
end
section
set_option Elab.async false
set_option linter.all false
set_option maxRecDepth 100000
set_option maxHeartbeats 1000000
set_option autoImplicit false
namespace K99
open PySem PySem.Spec PyProof.Rows L2 DL
variable [TN] {P : Program} {w : World} {K : PySem.W.Frag} {mg : Str → Option Value} {base : Heap}
/-! _law_kinds -/
theorem sc__law_kinds : FnScope ["e", "some", "word", "is_so"] ["e"] (defScope (top 23)) := ⟨rfl, rfl, rfl, by decide +kernel, rfl, by decide +kernel, by decide +kernel⟩
theorem ok__law_kinds (T : Tx K mg) : FnG P w K mg base (L2.CX P w) false 1 T.a__law_kinds T.d__law_kinds ["e"] (spD K T.C (m1 m__law_kinds)) :=
  fn1 (fun _ => rfl) T.F__law_kinds sc__law_kinds (by decide) fun cdv A outer s H E F0 gd hcd hT hr v_e => by
    have nd := sc__law_kinds.nd
    have hu := units_of hr
    have hv := units_of1 hr
    unfold B__law_kinds
    exact (cb_setN 1 (cn_lst2 (ce_tup2 ce_str (ce_isx (t := t_isx "BadAssumptions") (ce_var 0) (ct_ok T) (pe_glob (v := .ref T.A_BadAssumptions) rfl T.gA_BadAssumptions rfl) (cV := .ref T.A_BadAssumptions) (fun _ h => h) (isx_BadAssumptions T) T.b_isinstance)) (ce_tup2 ce_str (ce_isx (t := t_isx "BadBook") (ce_var 0) (ct_ok T) (pe_glob (v := .ref T.A_BadBook) rfl T.gA_BadBook rfl) (cV := .ref T.A_BadBook) (fun _ h => h) (isx_BadBook T) T.b_isinstance))) (fun v9 => (cb_setN 1 (cg_bin od_lcat (cm_var 1) (CN.m (cn_lst2 (ce_tup2 ce_str (ce_isx (t := t_isx "BadClaim") (ce_var 0) (ct_ok T) (pe_glob (v := .ref T.A_BadClaim) rfl T.gA_BadClaim rfl) (cV := .ref T.A_BadClaim) (fun _ h => h) (isx_BadClaim T) T.b_isinstance)) (ce_tup2 ce_str (ce_isx (t := t_isx "BadDeed") (ce_var 0) (ct_ok T) (pe_glob (v := .ref T.A_BadDeed) rfl T.gA_BadDeed rfl) (cV := .ref T.A_BadDeed) (fun _ h => h) (isx_BadDeed T) T.b_isinstance))))) (fun v16 => (cb_setN 1 (cg_bin od_lcat (cm_var 1) (CN.m (cn_lst2 (ce_tup2 ce_str (ce_isx (t := t_isx "BadForm") (ce_var 0) (ct_ok T) (pe_glob (v := .ref T.A_BadForm) rfl T.gA_BadForm rfl) (cV := .ref T.A_BadForm) (fun _ h => h) (isx_BadForm T) T.b_isinstance)) (ce_tup2 ce_str (ce_isx (t := t_isx "BadLetters") (ce_var 0) (ct_ok T) (pe_glob (v := .ref T.A_BadLetters) rfl T.gA_BadLetters rfl) (cV := .ref T.A_BadLetters) (fun _ h => h) (isx_BadLetters T) T.b_isinstance))))) (fun v23 => (cb_setN 1 (cg_bin od_lcat (cm_var 1) (CN.m (cn_lst2 (ce_tup2 ce_str (ce_isx (t := t_isx "BadMove") (ce_var 0) (ct_ok T) (pe_glob (v := .ref T.A_BadMove) rfl T.gA_BadMove rfl) (cV := .ref T.A_BadMove) (fun _ h => h) (isx_BadMove T) T.b_isinstance)) (ce_tup2 ce_str (ce_isx (t := t_isx "BadNumber") (ce_var 0) (ct_ok T) (pe_glob (v := .ref T.A_BadNumber) rfl T.gA_BadNumber rfl) (cV := .ref T.A_BadNumber) (fun _ h => h) (isx_BadNumber T) T.b_isinstance))))) (fun v30 => (cb_setN 1 (cg_bin od_lcat (cm_var 1) (CN.m (cn_lst2 (ce_tup2 ce_str (ce_isx (t := t_isx "BadOrder") (ce_var 0) (ct_ok T) (pe_glob (v := .ref T.A_BadOrder) rfl T.gA_BadOrder rfl) (cV := .ref T.A_BadOrder) (fun _ h => h) (isx_BadOrder T) T.b_isinstance)) (ce_tup2 ce_str (ce_isx (t := t_isx "BadPaper") (ce_var 0) (ct_ok T) (pe_glob (v := .ref T.A_BadPaper) rfl T.gA_BadPaper rfl) (cV := .ref T.A_BadPaper) (fun _ h => h) (isx_BadPaper T) T.b_isinstance))))) (fun v37 => (cb_setN 1 (cg_bin od_lcat (cm_var 1) (CN.m (cn_lst2 (ce_tup2 ce_str (ce_isx (t := t_isx "BadPoint") (ce_var 0) (ct_ok T) (pe_glob (v := .ref T.A_BadPoint) rfl T.gA_BadPoint rfl) (cV := .ref T.A_BadPoint) (fun _ h => h) (isx_BadPoint T) T.b_isinstance)) (ce_tup2 ce_str (ce_isx (t := t_isx "BadTerm") (ce_var 0) (ct_ok T) (pe_glob (v := .ref T.A_BadTerm) rfl T.gA_BadTerm rfl) (cV := .ref T.A_BadTerm) (fun _ h => h) (isx_BadTerm T) T.b_isinstance))))) (fun v44 => (cb_setN 1 (cg_bin od_lcat (cm_var 1) (CN.m (cn_lst2 (ce_tup2 ce_str (ce_isx (t := t_isx "BadText") (ce_var 0) (ct_ok T) (pe_glob (v := .ref T.A_BadText) rfl T.gA_BadText rfl) (cV := .ref T.A_BadText) (fun _ h => h) (isx_BadText T) T.b_isinstance)) (ce_tup2 ce_str (ce_isx (t := t_isx "BadTheory") (ce_var 0) (ct_ok T) (pe_glob (v := .ref T.A_BadTheory) rfl T.gA_BadTheory rfl) (cV := .ref T.A_BadTheory) (fun _ h => h) (isx_BadTheory T) T.b_isinstance))))) (fun v51 => (cb_setN 1 (cg_bin od_lcat (cm_var 1) (CN.m (cn_lst2 (ce_tup2 ce_str (ce_isx (t := t_isx "BadWorld") (ce_var 0) (ct_ok T) (pe_glob (v := .ref T.A_BadWorld) rfl T.gA_BadWorld rfl) (cV := .ref T.A_BadWorld) (fun _ h => h) (isx_BadWorld T) T.b_isinstance)) (ce_tup2 ce_str (ce_isx (t := t_isx "NoSuch") (ce_var 0) (ct_ok T) (pe_glob (v := .ref T.A_NoSuch) rfl T.gA_NoSuch rfl) (cV := .ref T.A_NoSuch) (fun _ h => h) (isx_NoSuch T) T.b_isinstance))))) (fun v58 => (cb_setN 1 (cg_bin od_lcat (cm_var 1) (CN.m (cn_lst2 (ce_tup2 ce_str (ce_isx (t := t_isx "TooMany") (ce_var 0) (ct_ok T) (pe_glob (v := .ref T.A_TooMany) rfl T.gA_TooMany rfl) (cV := .ref T.A_TooMany) (fun _ h => h) (isx_TooMany T) T.b_isinstance)) (ce_tup2 ce_str (ce_isx (t := t_isx "ProofError") (ce_var 0) (ct_ok T) (pe_glob (v := .ref T.A_ProofError) rfl T.gA_ProofError rfl) (cV := .ref T.A_ProofError) (fun _ h => h) (isx_ProofError T) T.b_isinstance))))) (fun v65 => (cb_setN 1 (cg_bin od_lcat (cm_var 1) (CN.m (cn_lst2 (ce_tup2 ce_str (ce_isx (t := t_isx "ValueError") (ce_var 0) (ct_ok T) (pe_bltn (v := .ty "ValueError") rfl T.b_ValueError (by decide +kernel) rfl (by decide) (by decide)) (cV := .ty "ValueError") (fun _ h => h) (isx_ValueError T) T.b_isinstance)) (ce_tup2 ce_str (ce_isx (t := t_isx "LookupError") (ce_var 0) (ct_ok T) (pe_bltn (v := .ty "LookupError") rfl T.b_LookupError (by decide +kernel) rfl (by decide) (by decide)) (cV := .ty "LookupError") (fun _ h => h) (isx_LookupError T) T.b_isinstance))))) (fun v72 => (cb_appD 1 (ce_tup2 ce_str (ce_isx (t := t_isx "OverflowError") (ce_var 0) (ct_ok T) (pe_bltn (v := .ty "OverflowError") rfl T.b_OverflowError (by decide +kernel) rfl (by decide) (by decide)) (cV := .ty "OverflowError") (fun _ h => h) (isx_OverflowError T) T.b_isinstance)) (fun v81 => (cb_freeze 1 (h := (cb_ret (CN.fz (cn_comp2 2 3 (ci_data (ce_var 1)) nd rfl (show blkC ["e", "some", "word", "is_so"] (defScope (top 23)) _ _ = true by decide +kernel) (fun c82 c83 _ _ _ _ _ => (cts_one (ct_val (ce_var 3)))) (fun c82 c83 _ _ _ _ _ => (ce_var 2)) (fun _ _ _ _ _ => pg_tup rfl (pgs_cons (pg_name (i := 2) nd rfl (by first | exact Or.inl rfl | exact Or.inr rfl)) (pgs_cons (pg_name (i := 3) nd rfl (by first | exact Or.inl rfl | exact Or.inr rfl)) pgs_nil))))))))))) nd)) nd)) nd)) nd)) nd)) nd)) nd)) nd)) nd)) nd)
end K99
end
section
set_option Elab.async false
set_option linter.all false
set_option maxRecDepth 100000
set_option maxHeartbeats 1000000
set_option autoImplicit false
namespace K99
open PySem PySem.Spec PyProof.Rows L2 DL
variable [TN] {P : Program} {w : World} {K : PySem.W.Frag} {mg : Str → Option Value} {base : Heap}
/-! _law_right -/
theorem sc__law_right : FnScope ["thing", "one", "other", "name"] ["thing"] (defScope (top 26)) := ⟨rfl, rfl, rfl, by decide +kernel, rfl, by decide +kernel, by decide +kernel⟩
theorem ok__law_right (T : Tx K mg) : FnG P w K mg base (L2.CX P w) false 4 T.a__law_right T.d__law_right ["thing"] (spD K T.C (m1 m__law_right)) :=
  fn1 (fun _ => rfl) T.F__law_right sc__law_right (by decide) fun cdv A outer s H E F0 gd hcd hT hr v_thing => by
    have nd := sc__law_right.nd
    have hu := units_of hr
    have hv := units_of1 hr
    unfold B__law_right
    exact (cb_cons (cs_for3 (γ := (fun s152 : Unit => [.d v_thing, .no, .no, .no])) 1 2 3 () (ci_data (ce_callA (ok__law_valued T) nob (hr.mono (by decide)) T.g__law_valued T.F__law_valued.kp T.B__law_valued .nil (fun _ => .nil) (ca_cons (ce_var 0) ca_nil))) (.keep (.keep (.keep (.keep .nil)))) (fun s152 i153 i154 i155 => (cb_cons (γ1 := (fun s156 : Unit => [.d v_thing, .d i153, .d i154, .d i155])) (cs_if (CW.t (cw_or (ct_cmp (od_ne hu) (CE.r (ce_callA (ok__law_kinds T) nob (hr.mono (by decide)) T.g__law_kinds T.F__law_kinds.kp T.B__law_kinds .nil (fun _ => .nil) (ca_cons (ce_var 1) ca_nil))) (CM.r (CN.m (cn_lstA (ca_cons (ce_var 3) (ca_cons ce_str (ca_cons ce_str ca_nil)))))) (nomark _)) (cw_or1 (ct_cmp (od_ne hu) (CE.r (ce_callA (ok__law_kinds T) nob (hr.mono (by decide)) T.g__law_kinds T.F__law_kinds.kp T.B__law_kinds .nil (fun _ => .nil) (ca_cons (ce_var 2) ca_nil))) (CM.r (CN.m (cn_lstA (ca_cons (ce_var 3) (ca_cons ce_str (ca_cons ce_str ca_nil)))))) (nomark _))))) (cb_ret ce_bl) (cb_nil () (.keep (.keep (.keep (.keep .nil)))))) (fun s156 => (cb_one (cs_if (CW.t (cw_or (ct_cmp (od_ne hu) (CE.r (ce_fldN (t := t_fld "value") (ce_var 1) (ct_ok T) (fl_ok T _))) (CE.r (ce_var 0)) (nomark _)) (cw_or1 (ct_cmp (od_ne hu) (CE.r (ce_fldN (t := t_fld "value") (ce_var 2) (ct_ok T) (fl_ok T _))) (CE.r (ce_var 0)) (nomark _))))) (cb_ret ce_bl) (cb_nil () (.keep (.drop (.drop (.drop .nil)))))))))) (passes_of rfl) rfl nd) (fun s152 => (cb_cons (cs_for3 (γ := (fun s157 : Unit => [.d v_thing, .no, .no, .no])) 1 2 3 () (ci_data (ce_callA (ok__law_placed T) nob (hr.mono (by decide)) T.g__law_placed T.F__law_placed.kp T.B__law_placed .nil (fun _ => .nil) (ca_cons (ce_var 0) ca_nil))) (.keep (.keep (.keep (.keep .nil)))) (fun s157 i158 i159 i160 => (cb_cons (γ1 := (fun s161 : Unit => [.d v_thing, .d i158, .d i159, .d i160])) (cs_if (CW.t (cw_or (ct_cmp (od_ne hu) (CE.r (ce_callA (ok__law_kinds T) nob (hr.mono (by decide)) T.g__law_kinds T.F__law_kinds.kp T.B__law_kinds .nil (fun _ => .nil) (ca_cons (ce_var 1) ca_nil))) (CM.r (CN.m (cn_lstA (ca_cons (ce_var 3) (ca_cons ce_str (ca_cons ce_str ca_nil)))))) (nomark _)) (cw_or1 (ct_cmp (od_ne hu) (CE.r (ce_callA (ok__law_kinds T) nob (hr.mono (by decide)) T.g__law_kinds T.F__law_kinds.kp T.B__law_kinds .nil (fun _ => .nil) (ca_cons (ce_var 2) ca_nil))) (CM.r (CN.m (cn_lstA (ca_cons (ce_var 3) (ca_cons ce_str (ca_cons ce_str ca_nil)))))) (nomark _))))) (cb_ret ce_bl) (cb_nil () (.keep (.keep (.keep (.keep .nil)))))) (fun s161 => (cb_one (cs_if (CW.t (cw_or (ct_cmp (od_ne hu) (CE.r (ce_fldN (t := t_fld "place") (ce_var 1) (ct_ok T) (fl_ok T _))) (CE.r (ce_var 0)) (nomark _)) (cw_or1 (ct_cmp (od_ne hu) (CE.r (ce_fldN (t := t_fld "place") (ce_var 2) (ct_ok T) (fl_ok T _))) (CE.r (ce_var 0)) (nomark _))))) (cb_ret ce_bl) (cb_nil () (.keep (.drop (.drop (.drop .nil)))))))))) (passes_of rfl) rfl nd) (fun s157 => (cb_cons (cs_for (γ := (fun s164 : Unit => [.d v_thing, .no, .no, .no])) 1 () (ci_data (ce_tup2 (ce_errP (ce_var 0) T.E_NoSuch rfl (fun _ h => (Option.some.inj h).symm) (init_NoSuch T) (hr.mono (by decide)) T.EB_NoSuch) (ce_errK (ce_var 0) T.E_NoSuch rfl (fun _ h => (Option.some.inj h).symm) (init_NoSuch T) (hr.mono (by decide)) T.EB_NoSuch))) (.keep (.keep (.keep (.keep .nil)))) (fun s164 i165 => (cb_one (cs_if (CW.t (cw_or (ct_cmp (od_ne hu) (CE.r (ce_callA (ok__law_kinds T) nob (hr.mono (by decide)) T.g__law_kinds T.F__law_kinds.kp T.B__law_kinds .nil (fun _ => .nil) (ca_cons (ce_var 1) ca_nil))) (CM.r (CN.m (cn_lst2 ce_str ce_str))) (nomark _)) (cw_or1 (ct_cmp (od_ne hu) (CE.r (ce_fldN (t := t_fld "value") (ce_var 1) (ct_ok T) (fl_ok T _))) (CE.r (ce_var 0)) (nomark _))))) (cb_ret ce_bl) (cb_nil () (.keep (.drop (.keep (.keep .nil)))))))) (passes_of rfl) rfl nd) (fun s164 => (cb_cons (cs_for (γ := (fun s170 : Unit => [.d v_thing, .no, .no, .no])) 1 () (ci_data (ce_tup2 (ce_errP (ce_var 0) T.E_TooMany rfl (fun _ h => (Option.some.inj h).symm) (init_TooMany T) (hr.mono (by decide)) T.EB_TooMany) (ce_errK (ce_var 0) T.E_TooMany rfl (fun _ h => (Option.some.inj h).symm) (init_TooMany T) (hr.mono (by decide)) T.EB_TooMany))) (.keep (.keep (.keep (.keep .nil)))) (fun s170 i171 => (cb_one (cs_if (CW.t (cw_or (ct_cmp (od_ne hu) (CE.r (ce_callA (ok__law_kinds T) nob (hr.mono (by decide)) T.g__law_kinds T.F__law_kinds.kp T.B__law_kinds .nil (fun _ => .nil) (ca_cons (ce_var 1) ca_nil))) (CM.r (CN.m (cn_lst2 ce_str ce_str))) (nomark _)) (cw_or1 (ct_cmp (od_ne hu) (CE.r (ce_fldN (t := t_fld "most") (ce_var 1) (ct_ok T) (fl_ok T _))) (CE.r (ce_var 0)) (nomark _))))) (cb_ret ce_bl) (cb_nil () (.keep (.drop (.keep (.keep .nil)))))))) (passes_of rfl) rfl nd) (fun s170 => (cb_ret ce_bl)))))))))
end K99
end
section
set_option Elab.async false
set_option linter.all false
set_option maxRecDepth 100000
set_option maxHeartbeats 1000000
set_option autoImplicit false
namespace K99
open PySem PySem.Spec PyProof.Rows L2 DL
variable [TN] {P : Program} {w : World} {K : PySem.W.Frag} {mg : Str → Option Value} {base : Heap}
/-! law -/
theorem sc_law : FnScope ["script", "k", "cell", "state", "number", "some", "others", "e", "thing", "made", "one", "other", "name"] ["script"] (defScope (top 27)) := ⟨rfl, rfl, rfl, by decide +kernel, rfl, by decide +kernel, by decide +kernel⟩
theorem ok_law (T : Tx K mg) : FnG P w K mg base (L2.CX P w) false 5 T.a_law T.d_law ["script"] (spQ K T.C m_law) :=
  fnQ (fun _ => rfl) T.F_law sc_law (by decide) fun cdv A outer s H E F0 gd hcd hT hr v_script => by
    have nd := sc_law.nd
    have hu := units_of hr
    have hv := units_of1 hr
    unfold B_law
    exact (cb_cons (cs_for2 (γ := (fun s175 : Unit => [.q v_script, .no, .no, .no, .no, .no, .no, .no, .no, .no, .no, .no, .no])) 1 2 () (ci_enumN (cg_bin od_lcat (CN.m (cg_sl sd_lslc (cl_var 0) co_none (co_some ce_int))) (CN.m (cn_lst1 (cg_callB (cd_sum rfl) (cl_var 0) T.b_sum (by decide +kernel))))) T.b_enumerate) (.keep (.keep (.keep (.keep (.keep (.keep (.keep (.keep (.keep (.keep (.keep (.keep (.keep .nil))))))))))))) (fun s175 i176 i177 => (cb_setK 3 (ce_callW (ok__law_draw T) nob (hr.mono (by decide)) T.g__law_draw T.F__law_draw.kp T.B__law_draw .nil (fun _ => .nil) (ca_cons (ce_var 2) (ca_cons (ce_var 1) ca_nil))) (fun ad179 v178 => (cb_setS 3 4 (ces_call 3 (ok__law_digit T) nob (hr.mono (by decide)) T.g__law_digit T.F__law_digit.kp T.B__law_digit .nil (fun _ => .nil) (CA.st 3 (ca_cons ce_int ca_nil))) (fun v180 s182 => (cb_setN 5 (cn_lstA (ca_cons (ce_var 4) (ca_cons (cg_bin od_sub ce_int (ce_var 4)) (ca_cons (cg_bin od_mulX ce_str (cg_bin od_mod (ce_var 4) ce_int)) (ca_cons (ce_tup2 ce_str (ce_tup2 ce_int (ce_var 4))) (ca_cons ce_non (ca_cons (ce_tup2 (cg_bin od_powB ce_int ce_int) ce_tup0) (ca_cons (cg_bin od_mulA (ce_tup1 (ce_var 4)) ce_int) ca_nil)))))))) (fun v184 => (cb_one (cs_ifS 3 (CWS.t (cws_or 3 (cts_not (cts_val (ces_callP 3 (ok__law_right T) nob (hr.mono (by decide)) T.g__law_right T.F__law_right.kp T.B__law_right .nil (fun _ => .nil) (cas_cons 3 (cgs_ix 3 xd_lidx (CM.l (cm_var 5)) (ces_call 3 (ok__law_digit T) nob (hr.mono (by decide)) T.g__law_digit T.F__law_digit.kp T.B__law_digit .nil (fun _ => .nil) (CA.st 3 (ca_cons ce_int ca_nil))) rL_s) (fun s194 => (cas_nil 3)))))) (fun s198 => (cws_or1 (CT.st 3 (ct_not (ct_val (ce_callA (ok__law_right T) nob (hr.mono (by decide)) T.g__law_right T.F__law_right.kp T.B__law_right .nil (fun _ => .nil) (ca_cons (cg_bin od_powB (cg_bin od_powB (cg_bin od_powB ce_int ce_int) ce_int) ce_int) ca_nil))))))))) (fun s200 => (cb_ret ce_bl)) (fun s201 => (cb_nil () (.keep (.drop (.drop (.drop (.drop (.drop (.keep (.keep (.keep (.keep (.keep (.keep (.keep .nil)))))))))))))))))) nd)) nd)) nd)) (passes_of rfl) rfl nd) (fun s175 => (cb_setN 5 (cn_lstA (ca_cons (ce_err0 T.E_BadPoint rfl (fun _ h => (Option.some.inj h).symm) (init_BadPoint T) (hr.mono (by decide)) T.EB_BadPoint) (ca_cons (ce_err0 T.E_BadNumber rfl (fun _ h => (Option.some.inj h).symm) (init_BadNumber T) (hr.mono (by decide)) T.EB_BadNumber) (ca_cons (ce_err0 T.E_BadLetters rfl (fun _ h => (Option.some.inj h).symm) (init_BadLetters T) (hr.mono (by decide)) T.EB_BadLetters) (ca_cons (ce_err0 T.E_NoSuch rfl (fun _ h => (Option.some.inj h).symm) (init_NoSuch T) (hr.mono (by decide)) T.EB_NoSuch) ca_nil))))) (fun v203 => (cb_setN 6 (cn_lstA (ca_cons (ce_err0 T.E_BadClaim rfl (fun _ h => (Option.some.inj h).symm) (init_BadClaim T) (hr.mono (by decide)) T.EB_BadClaim) (ca_cons (ce_err0 T.E_BadAssumptions rfl (fun _ h => (Option.some.inj h).symm) (init_BadAssumptions T) (hr.mono (by decide)) T.EB_BadAssumptions) (ca_cons (ce_err0 T.E_BadWorld rfl (fun _ h => (Option.some.inj h).symm) (init_BadWorld T) (hr.mono (by decide)) T.EB_BadWorld) (ca_cons (ce_err0 T.E_BadTerm rfl (fun _ h => (Option.some.inj h).symm) (init_BadTerm T) (hr.mono (by decide)) T.EB_BadTerm) (ca_cons (ce_err0 T.E_BadPaper rfl (fun _ h => (Option.some.inj h).symm) (init_BadPaper T) (hr.mono (by decide)) T.EB_BadPaper) (ca_cons (ce_err0 T.E_BadText rfl (fun _ h => (Option.some.inj h).symm) (init_BadText T) (hr.mono (by decide)) T.EB_BadText) (ca_cons (ce_err0 T.E_BadBook rfl (fun _ h => (Option.some.inj h).symm) (init_BadBook T) (hr.mono (by decide)) T.EB_BadBook) (ca_cons (ce_err0 T.E_BadForm rfl (fun _ h => (Option.some.inj h).symm) (init_BadForm T) (hr.mono (by decide)) T.EB_BadForm) (ca_cons (ce_err0 T.E_BadOrder rfl (fun _ h => (Option.some.inj h).symm) (init_BadOrder T) (hr.mono (by decide)) T.EB_BadOrder) ca_nil)))))))))) (fun v204 => (cb_setN 6 (cg_bin od_lcat (cm_var 6) (CN.m (cn_lstA (ca_cons (ce_err0 T.E_BadMove rfl (fun _ h => (Option.some.inj h).symm) (init_BadMove T) (hr.mono (by decide)) T.EB_BadMove) (ca_cons (ce_err0 T.E_BadDeed rfl (fun _ h => (Option.some.inj h).symm) (init_BadDeed T) (hr.mono (by decide)) T.EB_BadDeed) (ca_cons (ce_err0 T.E_BadTheory rfl (fun _ h => (Option.some.inj h).symm) (init_BadTheory T) (hr.mono (by decide)) T.EB_BadTheory) ca_nil)))))) (fun v205 => (cb_freeze 5 (h := (cb_freeze 6 (h := (cb_cons (γ1 := (fun s210 : Unit => [.q v_script, .no, .no, .no, .no, .d (D.lst v203), .d (D.lst v205), .no, .no, .no, .no, .no, .no])) (cs_if (CW.t (cw_or (ct_cmp (od_ne hu) (CM.r (CN.m (cn_comp 7 (ci_data (ce_var 5)) nd rfl (show blkC ["script", "k", "cell", "state", "number", "some", "others", "e", "thing", "made", "one", "other", "name"] (defScope (top 27)) _ _ = true by decide +kernel) (fun c206 _ _ _ _ _ => cts_nil) (fun c206 _ _ _ _ _ => (ce_fldN (t := t_fld "value") (ce_var 7) (ct_ok T) (fl_ok T _))) (fun _ _ _ _ _ => pg_name (i := 7) nd rfl (by first | exact Or.inl rfl | exact Or.inr rfl))))) (CM.r (CN.m (cg_bin od_lrep (CN.m (cn_lst1 ce_non)) ce_int))) (nomark _)) (cw_or1 (ct_cmp (od_ne hu) (CM.r (CN.m (cn_comp 7 (ci_data (ce_var 6)) nd rfl (show blkC ["script", "k", "cell", "state", "number", "some", "others", "e", "thing", "made", "one", "other", "name"] (defScope (top 27)) _ _ = true by decide +kernel) (fun c208 _ _ _ _ _ => cts_nil) (fun c208 _ _ _ _ _ => (ce_fldN (t := t_fld "place") (ce_var 7) (ct_ok T) (fl_ok T _))) (fun _ _ _ _ _ => pg_name (i := 7) nd rfl (by first | exact Or.inl rfl | exact Or.inr rfl))))) (CM.r (CN.m (cg_bin od_lrep (CN.m (cn_lst1 ce_non)) ce_int))) (nomark _))))) (cb_ret ce_bl) (cb_nil () (.keep (.keep (.keep (.keep (.keep (.keep (.keep (.keep (.keep (.keep (.keep (.keep (.keep .nil))))))))))))))) (fun s210 => (cb_cons (cs_for (γ := (fun s214 : Unit => [.q v_script, .no, .no, .no, .no, .d (D.lst v203), .d (D.lst v205), .no, .no, .no, .no, .no, .no])) 8 () (ci_data (ce_tup3 ce_str (cg_bin od_powB ce_int ce_int) ce_int)) (.keep (.keep (.keep (.keep (.keep (.keep (.keep (.keep (.keep (.keep (.keep (.keep (.keep .nil))))))))))))) (fun s214 i215 => (cb_setN 9 (cg_bin od_lcat (CN.m (cn_comp3 10 11 12 (ci_new (cg_bin od_lcat (CE.m (ce_callA (ok__law_valued T) nob (hr.mono (by decide)) T.g__law_valued T.F__law_valued.kp T.B__law_valued .nil (fun _ => .nil) (ca_cons (ce_var 8) ca_nil))) (CE.m (ce_callA (ok__law_placed T) nob (hr.mono (by decide)) T.g__law_placed T.F__law_placed.kp T.B__law_placed .nil (fun _ => .nil) (ca_cons (ce_var 8) ca_nil))))) nd rfl (show blkC ["script", "k", "cell", "state", "number", "some", "others", "e", "thing", "made", "one", "other", "name"] (defScope (top 27)) _ _ = true by decide +kernel) (fun c217 c218 c219 _ _ _ _ _ => cts_nil) (fun c217 c218 c219 _ _ _ _ _ => (ce_var 10)) (fun _ _ _ _ _ => pg_tup rfl (pgs_cons (pg_name (i := 10) nd rfl (by first | exact Or.inl rfl | exact Or.inr rfl)) (pgs_cons (pg_name (i := 11) nd rfl (by first | exact Or.inl rfl | exact Or.inr rfl)) (pgs_cons (pg_name (i := 12) nd rfl (by first | exact Or.inl rfl | exact Or.inr rfl)) pgs_nil)))))) (CN.m (cn_lst2 (ce_errP (ce_var 8) T.E_NoSuch rfl (fun _ h => (Option.some.inj h).symm) (init_NoSuch T) (hr.mono (by decide)) T.EB_NoSuch) (ce_errP (ce_var 8) T.E_TooMany rfl (fun _ h => (Option.some.inj h).symm) (init_TooMany T) (hr.mono (by decide)) T.EB_TooMany)))) (fun v216 => (cb_freeze 9 (h := (cb_one (cs_if (ct_cmp (od_ne hu) (CM.r (CN.m (cn_comp 7 (ci_data (ce_var 9)) nd rfl (show blkC ["script", "k", "cell", "state", "number", "some", "others", "e", "thing", "made", "one", "other", "name"] (defScope (top 27)) _ _ = true by decide +kernel) (fun c222 _ _ _ _ _ => (cts_one (ct_cmp od_inS (cg_callT (cd_strX hu (st_ok T)) (ce_var 8) T.b_str (by decide +kernel)) (CE.r (cg_callT (cd_strX hu (st_ok T)) (ce_var 7) T.b_str (by decide +kernel))) (by rfl)))) (fun c222 _ _ _ _ _ => (ce_var 7)) (fun _ _ _ _ _ => pg_name (i := 7) nd rfl (by first | exact Or.inl rfl | exact Or.inr rfl))))) (CM.r (CN.m cn_lst0)) (nomark _)) (cb_ret ce_bl) (cb_nil () (.keep (.keep (.keep (.keep (.keep (.keep (.keep (.keep (.drop (.drop (.keep (.keep (.keep .nil))))))))))))))))))) nd)) (passes_of rfl) rfl nd) (fun s214 => (cb_ret ce_bl)))))))))) nd)) nd)) nd)))
end K99
end
section
set_option Elab.async false
set_option linter.all false
set_option maxRecDepth 1000000
set_option maxHeartbeats 0
namespace K99
open PySem PySem.Spec PyProof.Rows L2 DL
abbrev Rw : PySem.W.OpenRow := PySem.W.OpenLaw.row PySem.Challenge.rw_prooforbar_k99_errors_by_hand
def dd__law_mixed : He.DefD := ⟨("_law_mixed", none), "_law_mixed", "_law_mixed", defArgs (top 20), defBody (top 20), defScope (top 20), [], []⟩
def dd__law_draw : He.DefD := ⟨("_law_draw", none), "_law_draw", "_law_draw", defArgs (top 21), defBody (top 21), defScope (top 21), [], []⟩
def dd__law_digit : He.DefD := ⟨("_law_digit", none), "_law_digit", "_law_digit", defArgs (top 22), defBody (top 22), defScope (top 22), [], []⟩
def dd__law_kinds : He.DefD := ⟨("_law_kinds", none), "_law_kinds", "_law_kinds", defArgs (top 23), defBody (top 23), defScope (top 23), [], []⟩
def dd__law_valued : He.DefD := ⟨("_law_valued", none), "_law_valued", "_law_valued", defArgs (top 24), defBody (top 24), defScope (top 24), [], []⟩
def dd__law_placed : He.DefD := ⟨("_law_placed", none), "_law_placed", "_law_placed", defArgs (top 25), defBody (top 25), defScope (top 25), [], []⟩
def dd__law_right : He.DefD := ⟨("_law_right", none), "_law_right", "_law_right", defArgs (top 26), defBody (top 26), defScope (top 26), [], []⟩
def dd_law : He.DefD := ⟨("law", none), "law", "law", defArgs (top 27), defBody (top 27), defScope (top 27), [], []⟩
def di_BadClaim : He.DefD := ⟨("BadClaim", some "__init__"), "__init__", "BadClaim.__init__", defArgs (mth 2), defBody (mth 2), defScope (mth 2), [.non], []⟩
def di_BadAssumptions : He.DefD := ⟨("BadAssumptions", some "__init__"), "__init__", "BadAssumptions.__init__", defArgs (mth 3), defBody (mth 3), defScope (mth 3), [.non], []⟩
def di_BadWorld : He.DefD := ⟨("BadWorld", some "__init__"), "__init__", "BadWorld.__init__", defArgs (mth 4), defBody (mth 4), defScope (mth 4), [.non], []⟩
def di_BadPoint : He.DefD := ⟨("BadPoint", some "__init__"), "__init__", "BadPoint.__init__", defArgs (mth 5), defBody (mth 5), defScope (mth 5), [.non], []⟩
def di_BadTerm : He.DefD := ⟨("BadTerm", some "__init__"), "__init__", "BadTerm.__init__", defArgs (mth 6), defBody (mth 6), defScope (mth 6), [.non], []⟩
def di_BadPaper : He.DefD := ⟨("BadPaper", some "__init__"), "__init__", "BadPaper.__init__", defArgs (mth 7), defBody (mth 7), defScope (mth 7), [.non], []⟩
def di_BadText : He.DefD := ⟨("BadText", some "__init__"), "__init__", "BadText.__init__", defArgs (mth 8), defBody (mth 8), defScope (mth 8), [.non], []⟩
def di_BadNumber : He.DefD := ⟨("BadNumber", some "__init__"), "__init__", "BadNumber.__init__", defArgs (mth 9), defBody (mth 9), defScope (mth 9), [.non], []⟩
def di_BadLetters : He.DefD := ⟨("BadLetters", some "__init__"), "__init__", "BadLetters.__init__", defArgs (mth 10), defBody (mth 10), defScope (mth 10), [.non], []⟩
def di_BadBook : He.DefD := ⟨("BadBook", some "__init__"), "__init__", "BadBook.__init__", defArgs (mth 11), defBody (mth 11), defScope (mth 11), [.non], []⟩
def di_BadForm : He.DefD := ⟨("BadForm", some "__init__"), "__init__", "BadForm.__init__", defArgs (mth 12), defBody (mth 12), defScope (mth 12), [.non], []⟩
def di_BadOrder : He.DefD := ⟨("BadOrder", some "__init__"), "__init__", "BadOrder.__init__", defArgs (mth 13), defBody (mth 13), defScope (mth 13), [.non], []⟩
def di_BadMove : He.DefD := ⟨("BadMove", some "__init__"), "__init__", "BadMove.__init__", defArgs (mth 14), defBody (mth 14), defScope (mth 14), [.non], []⟩
def di_BadDeed : He.DefD := ⟨("BadDeed", some "__init__"), "__init__", "BadDeed.__init__", defArgs (mth 15), defBody (mth 15), defScope (mth 15), [.non], []⟩
def di_BadTheory : He.DefD := ⟨("BadTheory", some "__init__"), "__init__", "BadTheory.__init__", defArgs (mth 16), defBody (mth 16), defScope (mth 16), [.non], []⟩
def di_TooMany : He.DefD := ⟨("TooMany", some "__init__"), "__init__", "TooMany.__init__", defArgs (mth 17), defBody (mth 17), defScope (mth 17), [], []⟩
def di_NoSuch : He.DefD := ⟨("NoSuch", some "__init__"), "__init__", "NoSuch.__init__", defArgs (mth 18), defBody (mth 18), defScope (mth 18), [.non], []⟩
def fnl : List He.DefD := [dd__law_mixed, dd__law_draw, dd__law_digit, dd__law_kinds, dd__law_valued, dd__law_placed, dd__law_right, dd_law, di_BadClaim, di_BadAssumptions, di_BadWorld, di_BadPoint, di_BadTerm, di_BadPaper, di_BadText, di_BadNumber, di_BadLetters, di_BadBook, di_BadForm, di_BadOrder, di_BadMove, di_BadDeed, di_BadTheory, di_TooMany, di_NoSuch]
def fal : List He.Fa := [.glo "ProofError", .glo "BadClaim", .glo "BadAssumptions", .glo "BadWorld", .glo "BadPoint", .glo "BadTerm", .glo "BadPaper", .glo "BadText", .glo "BadNumber", .glo "BadLetters", .glo "BadBook", .glo "BadForm", .glo "BadOrder", .glo "BadMove", .glo "BadDeed", .glo "BadTheory", .glo "TooMany", .glo "NoSuch", .glo "_law_mixed", .glo "_law_draw", .glo "_law_digit", .glo "_law_kinds", .glo "_law_valued", .glo "_law_placed", .glo "_law_right", .glo "law", .free "LookupError", .free "OverflowError", .free "ValueError", .free "enumerate", .free "isinstance", .free "range", .free "str", .free "sum"]
def tfl : List He.Defn := []
def exs (K : PySem.W.Frag) : List Bool := [erGB K "ValueError.__new__" [.type "ValueError", .type "Exception", .type "BaseException", .type "object"] (He.ga K "BadClaim") (He.fAd K ("BadClaim", some "__init__")) "place", ebO K "ValueError.__init__" (He.ga K "ProofError"), erGB K "ValueError.__new__" [.type "ValueError", .type "Exception", .type "BaseException", .type "object"] (He.ga K "BadAssumptions") (He.fAd K ("BadAssumptions", some "__init__")) "place", ebO K "ValueError.__init__" (He.ga K "ProofError"), erGB K "ValueError.__new__" [.type "ValueError", .type "Exception", .type "BaseException", .type "object"] (He.ga K "BadWorld") (He.fAd K ("BadWorld", some "__init__")) "place", ebO K "ValueError.__init__" (He.ga K "ProofError"), erGB K "ValueError.__new__" [.type "ValueError", .type "Exception", .type "BaseException", .type "object"] (He.ga K "BadPoint") (He.fAd K ("BadPoint", some "__init__")) "value", ebO K "ValueError.__init__" (He.ga K "ProofError"), erGB K "ValueError.__new__" [.type "ValueError", .type "Exception", .type "BaseException", .type "object"] (He.ga K "BadTerm") (He.fAd K ("BadTerm", some "__init__")) "place", ebO K "ValueError.__init__" (He.ga K "ProofError"), erGB K "ValueError.__new__" [.type "ValueError", .type "Exception", .type "BaseException", .type "object"] (He.ga K "BadPaper") (He.fAd K ("BadPaper", some "__init__")) "place", ebO K "ValueError.__init__" (He.ga K "ProofError"), erGB K "ValueError.__new__" [.type "ValueError", .type "Exception", .type "BaseException", .type "object"] (He.ga K "BadText") (He.fAd K ("BadText", some "__init__")) "place", ebO K "ValueError.__init__" (He.ga K "ProofError"), erGB K "ValueError.__new__" [.type "ValueError", .type "Exception", .type "BaseException", .type "object"] (He.ga K "BadNumber") (He.fAd K ("BadNumber", some "__init__")) "value", ebO K "ValueError.__init__" (He.ga K "ProofError"), erGB K "ValueError.__new__" [.type "ValueError", .type "Exception", .type "BaseException", .type "object"] (He.ga K "BadLetters") (He.fAd K ("BadLetters", some "__init__")) "value", ebO K "ValueError.__init__" (He.ga K "ProofError"), erGB K "ValueError.__new__" [.type "ValueError", .type "Exception", .type "BaseException", .type "object"] (He.ga K "BadBook") (He.fAd K ("BadBook", some "__init__")) "place", ebO K "ValueError.__init__" (He.ga K "ProofError"), erGB K "ValueError.__new__" [.type "ValueError", .type "Exception", .type "BaseException", .type "object"] (He.ga K "BadForm") (He.fAd K ("BadForm", some "__init__")) "place", ebO K "ValueError.__init__" (He.ga K "ProofError"), erGB K "ValueError.__new__" [.type "ValueError", .type "Exception", .type "BaseException", .type "object"] (He.ga K "BadOrder") (He.fAd K ("BadOrder", some "__init__")) "place", ebO K "ValueError.__init__" (He.ga K "ProofError"), erGB K "ValueError.__new__" [.type "ValueError", .type "Exception", .type "BaseException", .type "object"] (He.ga K "BadMove") (He.fAd K ("BadMove", some "__init__")) "place", ebO K "ValueError.__init__" (He.ga K "ProofError"), erGB K "ValueError.__new__" [.type "ValueError", .type "Exception", .type "BaseException", .type "object"] (He.ga K "BadDeed") (He.fAd K ("BadDeed", some "__init__")) "place", ebO K "ValueError.__init__" (He.ga K "ProofError"), erGB K "ValueError.__new__" [.type "ValueError", .type "Exception", .type "BaseException", .type "object"] (He.ga K "BadTheory") (He.fAd K ("BadTheory", some "__init__")) "place", ebO K "ValueError.__init__" (He.ga K "ProofError"), erGB K "OverflowError.__new__" [.type "OverflowError", .type "ArithmeticError", .type "Exception", .type "BaseException", .type "object"] (He.ga K "TooMany") (He.fAd K ("TooMany", some "__init__")) "most", ebB K "OverflowError" "OverflowError.__init__", erGB K "LookupError.__new__" [.type "LookupError", .type "Exception", .type "BaseException", .type "object"] (He.ga K "NoSuch") (He.fAd K ("NoSuch", some "__init__")) "value", ebB K "LookupError" "LookupError.__init__", DL.kitAll K [(He.ga K "BadClaim", false), (He.ga K "BadAssumptions", true), (He.ga K "BadWorld", false), (He.ga K "BadPoint", false), (He.ga K "BadTerm", false), (He.ga K "BadPaper", false), (He.ga K "BadText", false), (He.ga K "BadNumber", false), (He.ga K "BadLetters", false), (He.ga K "BadBook", false), (He.ga K "BadForm", false), (He.ga K "BadOrder", false), (He.ga K "BadMove", false), (He.ga K "BadDeed", false), (He.ga K "BadTheory", false), (He.ga K "TooMany", false), (He.ga K "NoSuch", false)] (.ref (He.ga K "BadAssumptions")), DL.kitAll K [(He.ga K "BadClaim", false), (He.ga K "BadAssumptions", false), (He.ga K "BadWorld", false), (He.ga K "BadPoint", false), (He.ga K "BadTerm", false), (He.ga K "BadPaper", false), (He.ga K "BadText", false), (He.ga K "BadNumber", false), (He.ga K "BadLetters", false), (He.ga K "BadBook", true), (He.ga K "BadForm", false), (He.ga K "BadOrder", false), (He.ga K "BadMove", false), (He.ga K "BadDeed", false), (He.ga K "BadTheory", false), (He.ga K "TooMany", false), (He.ga K "NoSuch", false)] (.ref (He.ga K "BadBook")), DL.kitAll K [(He.ga K "BadClaim", true), (He.ga K "BadAssumptions", false), (He.ga K "BadWorld", false), (He.ga K "BadPoint", false), (He.ga K "BadTerm", false), (He.ga K "BadPaper", false), (He.ga K "BadText", false), (He.ga K "BadNumber", false), (He.ga K "BadLetters", false), (He.ga K "BadBook", false), (He.ga K "BadForm", false), (He.ga K "BadOrder", false), (He.ga K "BadMove", false), (He.ga K "BadDeed", false), (He.ga K "BadTheory", false), (He.ga K "TooMany", false), (He.ga K "NoSuch", false)] (.ref (He.ga K "BadClaim")), DL.kitAll K [(He.ga K "BadClaim", false), (He.ga K "BadAssumptions", false), (He.ga K "BadWorld", false), (He.ga K "BadPoint", false), (He.ga K "BadTerm", false), (He.ga K "BadPaper", false), (He.ga K "BadText", false), (He.ga K "BadNumber", false), (He.ga K "BadLetters", false), (He.ga K "BadBook", false), (He.ga K "BadForm", false), (He.ga K "BadOrder", false), (He.ga K "BadMove", false), (He.ga K "BadDeed", true), (He.ga K "BadTheory", false), (He.ga K "TooMany", false), (He.ga K "NoSuch", false)] (.ref (He.ga K "BadDeed")), DL.kitAll K [(He.ga K "BadClaim", false), (He.ga K "BadAssumptions", false), (He.ga K "BadWorld", false), (He.ga K "BadPoint", false), (He.ga K "BadTerm", false), (He.ga K "BadPaper", false), (He.ga K "BadText", false), (He.ga K "BadNumber", false), (He.ga K "BadLetters", false), (He.ga K "BadBook", false), (He.ga K "BadForm", true), (He.ga K "BadOrder", false), (He.ga K "BadMove", false), (He.ga K "BadDeed", false), (He.ga K "BadTheory", false), (He.ga K "TooMany", false), (He.ga K "NoSuch", false)] (.ref (He.ga K "BadForm")), DL.kitAll K [(He.ga K "BadClaim", false), (He.ga K "BadAssumptions", false), (He.ga K "BadWorld", false), (He.ga K "BadPoint", false), (He.ga K "BadTerm", false), (He.ga K "BadPaper", false), (He.ga K "BadText", false), (He.ga K "BadNumber", false), (He.ga K "BadLetters", true), (He.ga K "BadBook", false), (He.ga K "BadForm", false), (He.ga K "BadOrder", false), (He.ga K "BadMove", false), (He.ga K "BadDeed", false), (He.ga K "BadTheory", false), (He.ga K "TooMany", false), (He.ga K "NoSuch", false)] (.ref (He.ga K "BadLetters")), DL.kitAll K [(He.ga K "BadClaim", false), (He.ga K "BadAssumptions", false), (He.ga K "BadWorld", false), (He.ga K "BadPoint", false), (He.ga K "BadTerm", false), (He.ga K "BadPaper", false), (He.ga K "BadText", false), (He.ga K "BadNumber", false), (He.ga K "BadLetters", false), (He.ga K "BadBook", false), (He.ga K "BadForm", false), (He.ga K "BadOrder", false), (He.ga K "BadMove", true), (He.ga K "BadDeed", false), (He.ga K "BadTheory", false), (He.ga K "TooMany", false), (He.ga K "NoSuch", false)] (.ref (He.ga K "BadMove")), DL.kitAll K [(He.ga K "BadClaim", false), (He.ga K "BadAssumptions", false), (He.ga K "BadWorld", false), (He.ga K "BadPoint", false), (He.ga K "BadTerm", false), (He.ga K "BadPaper", false), (He.ga K "BadText", false), (He.ga K "BadNumber", true), (He.ga K "BadLetters", false), (He.ga K "BadBook", false), (He.ga K "BadForm", false), (He.ga K "BadOrder", false), (He.ga K "BadMove", false), (He.ga K "BadDeed", false), (He.ga K "BadTheory", false), (He.ga K "TooMany", false), (He.ga K "NoSuch", false)] (.ref (He.ga K "BadNumber")), DL.kitAll K [(He.ga K "BadClaim", false), (He.ga K "BadAssumptions", false), (He.ga K "BadWorld", false), (He.ga K "BadPoint", false), (He.ga K "BadTerm", false), (He.ga K "BadPaper", false), (He.ga K "BadText", false), (He.ga K "BadNumber", false), (He.ga K "BadLetters", false), (He.ga K "BadBook", false), (He.ga K "BadForm", false), (He.ga K "BadOrder", true), (He.ga K "BadMove", false), (He.ga K "BadDeed", false), (He.ga K "BadTheory", false), (He.ga K "TooMany", false), (He.ga K "NoSuch", false)] (.ref (He.ga K "BadOrder")), DL.kitAll K [(He.ga K "BadClaim", false), (He.ga K "BadAssumptions", false), (He.ga K "BadWorld", false), (He.ga K "BadPoint", false), (He.ga K "BadTerm", false), (He.ga K "BadPaper", true), (He.ga K "BadText", false), (He.ga K "BadNumber", false), (He.ga K "BadLetters", false), (He.ga K "BadBook", false), (He.ga K "BadForm", false), (He.ga K "BadOrder", false), (He.ga K "BadMove", false), (He.ga K "BadDeed", false), (He.ga K "BadTheory", false), (He.ga K "TooMany", false), (He.ga K "NoSuch", false)] (.ref (He.ga K "BadPaper")), DL.kitAll K [(He.ga K "BadClaim", false), (He.ga K "BadAssumptions", false), (He.ga K "BadWorld", false), (He.ga K "BadPoint", true), (He.ga K "BadTerm", false), (He.ga K "BadPaper", false), (He.ga K "BadText", false), (He.ga K "BadNumber", false), (He.ga K "BadLetters", false), (He.ga K "BadBook", false), (He.ga K "BadForm", false), (He.ga K "BadOrder", false), (He.ga K "BadMove", false), (He.ga K "BadDeed", false), (He.ga K "BadTheory", false), (He.ga K "TooMany", false), (He.ga K "NoSuch", false)] (.ref (He.ga K "BadPoint")), DL.kitAll K [(He.ga K "BadClaim", false), (He.ga K "BadAssumptions", false), (He.ga K "BadWorld", false), (He.ga K "BadPoint", false), (He.ga K "BadTerm", true), (He.ga K "BadPaper", false), (He.ga K "BadText", false), (He.ga K "BadNumber", false), (He.ga K "BadLetters", false), (He.ga K "BadBook", false), (He.ga K "BadForm", false), (He.ga K "BadOrder", false), (He.ga K "BadMove", false), (He.ga K "BadDeed", false), (He.ga K "BadTheory", false), (He.ga K "TooMany", false), (He.ga K "NoSuch", false)] (.ref (He.ga K "BadTerm")), DL.kitAll K [(He.ga K "BadClaim", false), (He.ga K "BadAssumptions", false), (He.ga K "BadWorld", false), (He.ga K "BadPoint", false), (He.ga K "BadTerm", false), (He.ga K "BadPaper", false), (He.ga K "BadText", true), (He.ga K "BadNumber", false), (He.ga K "BadLetters", false), (He.ga K "BadBook", false), (He.ga K "BadForm", false), (He.ga K "BadOrder", false), (He.ga K "BadMove", false), (He.ga K "BadDeed", false), (He.ga K "BadTheory", false), (He.ga K "TooMany", false), (He.ga K "NoSuch", false)] (.ref (He.ga K "BadText")), DL.kitAll K [(He.ga K "BadClaim", false), (He.ga K "BadAssumptions", false), (He.ga K "BadWorld", false), (He.ga K "BadPoint", false), (He.ga K "BadTerm", false), (He.ga K "BadPaper", false), (He.ga K "BadText", false), (He.ga K "BadNumber", false), (He.ga K "BadLetters", false), (He.ga K "BadBook", false), (He.ga K "BadForm", false), (He.ga K "BadOrder", false), (He.ga K "BadMove", false), (He.ga K "BadDeed", false), (He.ga K "BadTheory", true), (He.ga K "TooMany", false), (He.ga K "NoSuch", false)] (.ref (He.ga K "BadTheory")), DL.kitAll K [(He.ga K "BadClaim", false), (He.ga K "BadAssumptions", false), (He.ga K "BadWorld", true), (He.ga K "BadPoint", false), (He.ga K "BadTerm", false), (He.ga K "BadPaper", false), (He.ga K "BadText", false), (He.ga K "BadNumber", false), (He.ga K "BadLetters", false), (He.ga K "BadBook", false), (He.ga K "BadForm", false), (He.ga K "BadOrder", false), (He.ga K "BadMove", false), (He.ga K "BadDeed", false), (He.ga K "BadTheory", false), (He.ga K "TooMany", false), (He.ga K "NoSuch", false)] (.ref (He.ga K "BadWorld")), DL.kitAll K [(He.ga K "BadClaim", false), (He.ga K "BadAssumptions", false), (He.ga K "BadWorld", false), (He.ga K "BadPoint", false), (He.ga K "BadTerm", false), (He.ga K "BadPaper", false), (He.ga K "BadText", false), (He.ga K "BadNumber", false), (He.ga K "BadLetters", false), (He.ga K "BadBook", false), (He.ga K "BadForm", false), (He.ga K "BadOrder", false), (He.ga K "BadMove", false), (He.ga K "BadDeed", false), (He.ga K "BadTheory", false), (He.ga K "TooMany", false), (He.ga K "NoSuch", true)] (.type "LookupError"), DL.kitAll K [(He.ga K "BadClaim", false), (He.ga K "BadAssumptions", false), (He.ga K "BadWorld", false), (He.ga K "BadPoint", false), (He.ga K "BadTerm", false), (He.ga K "BadPaper", false), (He.ga K "BadText", false), (He.ga K "BadNumber", false), (He.ga K "BadLetters", false), (He.ga K "BadBook", false), (He.ga K "BadForm", false), (He.ga K "BadOrder", false), (He.ga K "BadMove", false), (He.ga K "BadDeed", false), (He.ga K "BadTheory", false), (He.ga K "TooMany", false), (He.ga K "NoSuch", true)] (.ref (He.ga K "NoSuch")), DL.kitAll K [(He.ga K "BadClaim", false), (He.ga K "BadAssumptions", false), (He.ga K "BadWorld", false), (He.ga K "BadPoint", false), (He.ga K "BadTerm", false), (He.ga K "BadPaper", false), (He.ga K "BadText", false), (He.ga K "BadNumber", false), (He.ga K "BadLetters", false), (He.ga K "BadBook", false), (He.ga K "BadForm", false), (He.ga K "BadOrder", false), (He.ga K "BadMove", false), (He.ga K "BadDeed", false), (He.ga K "BadTheory", false), (He.ga K "TooMany", true), (He.ga K "NoSuch", false)] (.type "OverflowError"), DL.kitAll K [(He.ga K "BadClaim", true), (He.ga K "BadAssumptions", true), (He.ga K "BadWorld", true), (He.ga K "BadPoint", true), (He.ga K "BadTerm", true), (He.ga K "BadPaper", true), (He.ga K "BadText", true), (He.ga K "BadNumber", true), (He.ga K "BadLetters", true), (He.ga K "BadBook", true), (He.ga K "BadForm", true), (He.ga K "BadOrder", true), (He.ga K "BadMove", true), (He.ga K "BadDeed", true), (He.ga K "BadTheory", true), (He.ga K "TooMany", false), (He.ga K "NoSuch", false)] (.ref (He.ga K "ProofError")), DL.kitAll K [(He.ga K "BadClaim", false), (He.ga K "BadAssumptions", false), (He.ga K "BadWorld", false), (He.ga K "BadPoint", false), (He.ga K "BadTerm", false), (He.ga K "BadPaper", false), (He.ga K "BadText", false), (He.ga K "BadNumber", false), (He.ga K "BadLetters", false), (He.ga K "BadBook", false), (He.ga K "BadForm", false), (He.ga K "BadOrder", false), (He.ga K "BadMove", false), (He.ga K "BadDeed", false), (He.ga K "BadTheory", false), (He.ga K "TooMany", true), (He.ga K "NoSuch", false)] (.ref (He.ga K "TooMany")), DL.kitAll K [(He.ga K "BadClaim", true), (He.ga K "BadAssumptions", true), (He.ga K "BadWorld", true), (He.ga K "BadPoint", true), (He.ga K "BadTerm", true), (He.ga K "BadPaper", true), (He.ga K "BadText", true), (He.ga K "BadNumber", true), (He.ga K "BadLetters", true), (He.ga K "BadBook", true), (He.ga K "BadForm", true), (He.ga K "BadOrder", true), (He.ga K "BadMove", true), (He.ga K "BadDeed", true), (He.ga K "BadTheory", true), (He.ga K "TooMany", false), (He.ga K "NoSuch", false)] (.type "ValueError"), true]
def exl (K : PySem.W.Frag) : Bool := (exs K).all fun b => b
abbrev hk : PySem.W.Hook := DL.hookZ 5 fal fnl [] tfl exl
def ob (s : PySem.W.SharedT) : He.AlX := DL.obsZ 5 fal fnl [] tfl exl (HandSHeadRun.getT s)
theorem ob_eq (s : PySem.W.SharedT) : ob s = hk.obs s.abs := DL.obsZ_eq (HandSHeadRun.getT_eq s)
theorem run (w : World) : HandSHeadRun.RunEq Rw (PySem.W.view Rw.prog [27]) hk ob 10000 (("ProofError" :: "BadClaim" :: "BadAssumptions" :: "BadWorld" :: "BadPoint" :: "BadTerm" :: "BadPaper" :: "BadText" :: "BadNumber" :: "BadLetters" :: "BadBook" :: "BadForm" :: "BadOrder" :: "BadMove" :: "BadDeed" :: "BadTheory" :: "TooMany" :: "NoSuch" :: "_law_mixed" :: "_law_draw" :: "_law_digit" :: "_law_kinds" :: "_law_valued" :: "_law_placed" :: "_law_right" :: []) : List PySem.Str) w := by
  intro os
  kernel_rfl
theorem tx [TN] {w : World} {mg : Str → Option Value} {h : Heap} {K : PySem.W.Frag} (KX : K.In h) (G : h.Ns mainGlobals mg) (c : He.SaysX fal fnl [] tfl exl w h K)  : ∃ T : Tx K mg, T.a_law = He.ga K "law" := by
  obtain ⟨d__law_mixed, F__law_mixed⟩ := c.t.d.def_ 0 (d := dd__law_mixed)
  obtain ⟨d__law_draw, F__law_draw⟩ := c.t.d.def_ 1 (d := dd__law_draw)
  obtain ⟨d__law_digit, F__law_digit⟩ := c.t.d.def_ 2 (d := dd__law_digit)
  obtain ⟨d__law_kinds, F__law_kinds⟩ := c.t.d.def_ 3 (d := dd__law_kinds)
  obtain ⟨d__law_valued, F__law_valued⟩ := c.t.d.def_ 4 (d := dd__law_valued)
  obtain ⟨d__law_placed, F__law_placed⟩ := c.t.d.def_ 5 (d := dd__law_placed)
  obtain ⟨d__law_right, F__law_right⟩ := c.t.d.def_ 6 (d := dd__law_right)
  obtain ⟨d_law, F_law⟩ := c.t.d.def_ 7 (d := dd_law)
  obtain ⟨d_BadClaim, F_BadClaim⟩ := c.t.d.def_ 8 (d := di_BadClaim)
  obtain ⟨d_BadAssumptions, F_BadAssumptions⟩ := c.t.d.def_ 9 (d := di_BadAssumptions)
  obtain ⟨d_BadWorld, F_BadWorld⟩ := c.t.d.def_ 10 (d := di_BadWorld)
  obtain ⟨d_BadPoint, F_BadPoint⟩ := c.t.d.def_ 11 (d := di_BadPoint)
  obtain ⟨d_BadTerm, F_BadTerm⟩ := c.t.d.def_ 12 (d := di_BadTerm)
  obtain ⟨d_BadPaper, F_BadPaper⟩ := c.t.d.def_ 13 (d := di_BadPaper)
  obtain ⟨d_BadText, F_BadText⟩ := c.t.d.def_ 14 (d := di_BadText)
  obtain ⟨d_BadNumber, F_BadNumber⟩ := c.t.d.def_ 15 (d := di_BadNumber)
  obtain ⟨d_BadLetters, F_BadLetters⟩ := c.t.d.def_ 16 (d := di_BadLetters)
  obtain ⟨d_BadBook, F_BadBook⟩ := c.t.d.def_ 17 (d := di_BadBook)
  obtain ⟨d_BadForm, F_BadForm⟩ := c.t.d.def_ 18 (d := di_BadForm)
  obtain ⟨d_BadOrder, F_BadOrder⟩ := c.t.d.def_ 19 (d := di_BadOrder)
  obtain ⟨d_BadMove, F_BadMove⟩ := c.t.d.def_ 20 (d := di_BadMove)
  obtain ⟨d_BadDeed, F_BadDeed⟩ := c.t.d.def_ 21 (d := di_BadDeed)
  obtain ⟨d_BadTheory, F_BadTheory⟩ := c.t.d.def_ 22 (d := di_BadTheory)
  obtain ⟨d_TooMany, F_TooMany⟩ := c.t.d.def_ 23 (d := di_TooMany)
  obtain ⟨d_NoSuch, F_NoSuch⟩ := c.t.d.def_ 24 (d := di_NoSuch)
  have g_ProofError := He.glo_ok KX G (c.t.d.fact 0 (f := .glo "ProofError"))
  have g_BadClaim := He.glo_ok KX G (c.t.d.fact 1 (f := .glo "BadClaim"))
  have g_BadAssumptions := He.glo_ok KX G (c.t.d.fact 2 (f := .glo "BadAssumptions"))
  have g_BadWorld := He.glo_ok KX G (c.t.d.fact 3 (f := .glo "BadWorld"))
  have g_BadPoint := He.glo_ok KX G (c.t.d.fact 4 (f := .glo "BadPoint"))
  have g_BadTerm := He.glo_ok KX G (c.t.d.fact 5 (f := .glo "BadTerm"))
  have g_BadPaper := He.glo_ok KX G (c.t.d.fact 6 (f := .glo "BadPaper"))
  have g_BadText := He.glo_ok KX G (c.t.d.fact 7 (f := .glo "BadText"))
  have g_BadNumber := He.glo_ok KX G (c.t.d.fact 8 (f := .glo "BadNumber"))
  have g_BadLetters := He.glo_ok KX G (c.t.d.fact 9 (f := .glo "BadLetters"))
  have g_BadBook := He.glo_ok KX G (c.t.d.fact 10 (f := .glo "BadBook"))
  have g_BadForm := He.glo_ok KX G (c.t.d.fact 11 (f := .glo "BadForm"))
  have g_BadOrder := He.glo_ok KX G (c.t.d.fact 12 (f := .glo "BadOrder"))
  have g_BadMove := He.glo_ok KX G (c.t.d.fact 13 (f := .glo "BadMove"))
  have g_BadDeed := He.glo_ok KX G (c.t.d.fact 14 (f := .glo "BadDeed"))
  have g_BadTheory := He.glo_ok KX G (c.t.d.fact 15 (f := .glo "BadTheory"))
  have g_TooMany := He.glo_ok KX G (c.t.d.fact 16 (f := .glo "TooMany"))
  have g_NoSuch := He.glo_ok KX G (c.t.d.fact 17 (f := .glo "NoSuch"))
  have ex : (exs K).all (fun b => b) = true := c.more
  have er_BadClaim := all_at ex 0 rfl
  have eo_BadClaim := all_at ex 1 rfl
  have er_BadAssumptions := all_at ex 2 rfl
  have eo_BadAssumptions := all_at ex 3 rfl
  have er_BadWorld := all_at ex 4 rfl
  have eo_BadWorld := all_at ex 5 rfl
  have er_BadPoint := all_at ex 6 rfl
  have eo_BadPoint := all_at ex 7 rfl
  have er_BadTerm := all_at ex 8 rfl
  have eo_BadTerm := all_at ex 9 rfl
  have er_BadPaper := all_at ex 10 rfl
  have eo_BadPaper := all_at ex 11 rfl
  have er_BadText := all_at ex 12 rfl
  have eo_BadText := all_at ex 13 rfl
  have er_BadNumber := all_at ex 14 rfl
  have eo_BadNumber := all_at ex 15 rfl
  have er_BadLetters := all_at ex 16 rfl
  have eo_BadLetters := all_at ex 17 rfl
  have er_BadBook := all_at ex 18 rfl
  have eo_BadBook := all_at ex 19 rfl
  have er_BadForm := all_at ex 20 rfl
  have eo_BadForm := all_at ex 21 rfl
  have er_BadOrder := all_at ex 22 rfl
  have eo_BadOrder := all_at ex 23 rfl
  have er_BadMove := all_at ex 24 rfl
  have eo_BadMove := all_at ex 25 rfl
  have er_BadDeed := all_at ex 26 rfl
  have eo_BadDeed := all_at ex 27 rfl
  have er_BadTheory := all_at ex 28 rfl
  have eo_BadTheory := all_at ex 29 rfl
  have er_TooMany := all_at ex 30 rfl
  have eo_TooMany := all_at ex 31 rfl
  have er_NoSuch := all_at ex 32 rfl
  have eo_NoSuch := all_at ex 33 rfl
  have k_BadAssumptions := all_at ex 34 rfl
  have k_BadBook := all_at ex 35 rfl
  have k_BadClaim := all_at ex 36 rfl
  have k_BadDeed := all_at ex 37 rfl
  have k_BadForm := all_at ex 38 rfl
  have k_BadLetters := all_at ex 39 rfl
  have k_BadMove := all_at ex 40 rfl
  have k_BadNumber := all_at ex 41 rfl
  have k_BadOrder := all_at ex 42 rfl
  have k_BadPaper := all_at ex 43 rfl
  have k_BadPoint := all_at ex 44 rfl
  have k_BadTerm := all_at ex 45 rfl
  have k_BadText := all_at ex 46 rfl
  have k_BadTheory := all_at ex 47 rfl
  have k_BadWorld := all_at ex 48 rfl
  have k_LookupError := all_at ex 49 rfl
  have k_NoSuch := all_at ex 50 rfl
  have k_OverflowError := all_at ex 51 rfl
  have k_ProofError := all_at ex 52 rfl
  have k_TooMany := all_at ex 53 rfl
  have k_ValueError := all_at ex 54 rfl
  obtain ⟨E_BadClaim, EC_BadClaim, ES_BadClaim⟩ := erGB_ok (x := "BadClaim") PySem.DLE.eb_VE er_BadClaim g_BadClaim
  have EO_BadClaim := ebO_ok eo_BadClaim
  obtain ⟨E_BadAssumptions, EC_BadAssumptions, ES_BadAssumptions⟩ := erGB_ok (x := "BadAssumptions") PySem.DLE.eb_VE er_BadAssumptions g_BadAssumptions
  have EO_BadAssumptions := ebO_ok eo_BadAssumptions
  obtain ⟨E_BadWorld, EC_BadWorld, ES_BadWorld⟩ := erGB_ok (x := "BadWorld") PySem.DLE.eb_VE er_BadWorld g_BadWorld
  have EO_BadWorld := ebO_ok eo_BadWorld
  obtain ⟨E_BadPoint, EC_BadPoint, ES_BadPoint⟩ := erGB_ok (x := "BadPoint") PySem.DLE.eb_VE er_BadPoint g_BadPoint
  have EO_BadPoint := ebO_ok eo_BadPoint
  obtain ⟨E_BadTerm, EC_BadTerm, ES_BadTerm⟩ := erGB_ok (x := "BadTerm") PySem.DLE.eb_VE er_BadTerm g_BadTerm
  have EO_BadTerm := ebO_ok eo_BadTerm
  obtain ⟨E_BadPaper, EC_BadPaper, ES_BadPaper⟩ := erGB_ok (x := "BadPaper") PySem.DLE.eb_VE er_BadPaper g_BadPaper
  have EO_BadPaper := ebO_ok eo_BadPaper
  obtain ⟨E_BadText, EC_BadText, ES_BadText⟩ := erGB_ok (x := "BadText") PySem.DLE.eb_VE er_BadText g_BadText
  have EO_BadText := ebO_ok eo_BadText
  obtain ⟨E_BadNumber, EC_BadNumber, ES_BadNumber⟩ := erGB_ok (x := "BadNumber") PySem.DLE.eb_VE er_BadNumber g_BadNumber
  have EO_BadNumber := ebO_ok eo_BadNumber
  obtain ⟨E_BadLetters, EC_BadLetters, ES_BadLetters⟩ := erGB_ok (x := "BadLetters") PySem.DLE.eb_VE er_BadLetters g_BadLetters
  have EO_BadLetters := ebO_ok eo_BadLetters
  obtain ⟨E_BadBook, EC_BadBook, ES_BadBook⟩ := erGB_ok (x := "BadBook") PySem.DLE.eb_VE er_BadBook g_BadBook
  have EO_BadBook := ebO_ok eo_BadBook
  obtain ⟨E_BadForm, EC_BadForm, ES_BadForm⟩ := erGB_ok (x := "BadForm") PySem.DLE.eb_VE er_BadForm g_BadForm
  have EO_BadForm := ebO_ok eo_BadForm
  obtain ⟨E_BadOrder, EC_BadOrder, ES_BadOrder⟩ := erGB_ok (x := "BadOrder") PySem.DLE.eb_VE er_BadOrder g_BadOrder
  have EO_BadOrder := ebO_ok eo_BadOrder
  obtain ⟨E_BadMove, EC_BadMove, ES_BadMove⟩ := erGB_ok (x := "BadMove") PySem.DLE.eb_VE er_BadMove g_BadMove
  have EO_BadMove := ebO_ok eo_BadMove
  obtain ⟨E_BadDeed, EC_BadDeed, ES_BadDeed⟩ := erGB_ok (x := "BadDeed") PySem.DLE.eb_VE er_BadDeed g_BadDeed
  have EO_BadDeed := ebO_ok eo_BadDeed
  obtain ⟨E_BadTheory, EC_BadTheory, ES_BadTheory⟩ := erGB_ok (x := "BadTheory") PySem.DLE.eb_VE er_BadTheory g_BadTheory
  have EO_BadTheory := ebO_ok eo_BadTheory
  obtain ⟨E_TooMany, EC_TooMany, ES_TooMany⟩ := erGB_ok (x := "TooMany") PySem.DLE.eb_OE er_TooMany g_TooMany
  have EO_TooMany := ebB_ok eo_TooMany
  obtain ⟨E_NoSuch, EC_NoSuch, ES_NoSuch⟩ := erGB_ok (x := "NoSuch") PySem.DLE.eb_LE er_NoSuch g_NoSuch
  have EO_NoSuch := ebB_ok eo_NoSuch
  exact ⟨{ A_ProofError := He.ga K "ProofError", gA_ProofError := g_ProofError, A_BadClaim := He.ga K "BadClaim", gA_BadClaim := g_BadClaim, A_BadAssumptions := He.ga K "BadAssumptions", gA_BadAssumptions := g_BadAssumptions, A_BadWorld := He.ga K "BadWorld", gA_BadWorld := g_BadWorld, A_BadPoint := He.ga K "BadPoint", gA_BadPoint := g_BadPoint, A_BadTerm := He.ga K "BadTerm", gA_BadTerm := g_BadTerm, A_BadPaper := He.ga K "BadPaper", gA_BadPaper := g_BadPaper, A_BadText := He.ga K "BadText", gA_BadText := g_BadText, A_BadNumber := He.ga K "BadNumber", gA_BadNumber := g_BadNumber, A_BadLetters := He.ga K "BadLetters", gA_BadLetters := g_BadLetters, A_BadBook := He.ga K "BadBook", gA_BadBook := g_BadBook, A_BadForm := He.ga K "BadForm", gA_BadForm := g_BadForm, A_BadOrder := He.ga K "BadOrder", gA_BadOrder := g_BadOrder, A_BadMove := He.ga K "BadMove", gA_BadMove := g_BadMove, A_BadDeed := He.ga K "BadDeed", gA_BadDeed := g_BadDeed, A_BadTheory := He.ga K "BadTheory", gA_BadTheory := g_BadTheory, A_TooMany := He.ga K "TooMany", gA_TooMany := g_TooMany, A_NoSuch := He.ga K "NoSuch", gA_NoSuch := g_NoSuch, I_BadClaim := He.fAd K ("BadClaim", some "__init__"), dI_BadClaim := d_BadClaim, E_BadClaim := E_BadClaim, EC_BadClaim := EC_BadClaim, ES_BadClaim := ES_BadClaim, EO_BadClaim := EO_BadClaim, FI_BadClaim := F_BadClaim, EB_BadClaim := ebn_D (x := "__init__") (qual := "BadClaim.__init__") (params := defArgs (mth 2)) (body := defBody (mth 2)) (scope := defScope (mth 2)) F_BadClaim (fun _ _ _ _ _ _ _ _ _ _ => ⟨_, rfl, rfl⟩) (fun _ _ _ _ _ _ _ _ _ _ => ⟨_, rfl, rfl⟩) (fun _ _ _ _ _ _ _ _ _ => ⟨_, rfl, rfl⟩), I_BadAssumptions := He.fAd K ("BadAssumptions", some "__init__"), dI_BadAssumptions := d_BadAssumptions, E_BadAssumptions := E_BadAssumptions, EC_BadAssumptions := EC_BadAssumptions, ES_BadAssumptions := ES_BadAssumptions, EO_BadAssumptions := EO_BadAssumptions, FI_BadAssumptions := F_BadAssumptions, EB_BadAssumptions := ebn_D (x := "__init__") (qual := "BadAssumptions.__init__") (params := defArgs (mth 3)) (body := defBody (mth 3)) (scope := defScope (mth 3)) F_BadAssumptions (fun _ _ _ _ _ _ _ _ _ _ => ⟨_, rfl, rfl⟩) (fun _ _ _ _ _ _ _ _ _ _ => ⟨_, rfl, rfl⟩) (fun _ _ _ _ _ _ _ _ _ => ⟨_, rfl, rfl⟩), I_BadWorld := He.fAd K ("BadWorld", some "__init__"), dI_BadWorld := d_BadWorld, E_BadWorld := E_BadWorld, EC_BadWorld := EC_BadWorld, ES_BadWorld := ES_BadWorld, EO_BadWorld := EO_BadWorld, FI_BadWorld := F_BadWorld, EB_BadWorld := ebn_D (x := "__init__") (qual := "BadWorld.__init__") (params := defArgs (mth 4)) (body := defBody (mth 4)) (scope := defScope (mth 4)) F_BadWorld (fun _ _ _ _ _ _ _ _ _ _ => ⟨_, rfl, rfl⟩) (fun _ _ _ _ _ _ _ _ _ _ => ⟨_, rfl, rfl⟩) (fun _ _ _ _ _ _ _ _ _ => ⟨_, rfl, rfl⟩), I_BadPoint := He.fAd K ("BadPoint", some "__init__"), dI_BadPoint := d_BadPoint, E_BadPoint := E_BadPoint, EC_BadPoint := EC_BadPoint, ES_BadPoint := ES_BadPoint, EO_BadPoint := EO_BadPoint, FI_BadPoint := F_BadPoint, EB_BadPoint := ebn_D (x := "__init__") (qual := "BadPoint.__init__") (params := defArgs (mth 5)) (body := defBody (mth 5)) (scope := defScope (mth 5)) F_BadPoint (fun _ _ _ _ _ _ _ _ _ _ => ⟨_, rfl, rfl⟩) (fun _ _ _ _ _ _ _ _ _ _ => ⟨_, rfl, rfl⟩) (fun _ _ _ _ _ _ _ _ _ => ⟨_, rfl, rfl⟩), I_BadTerm := He.fAd K ("BadTerm", some "__init__"), dI_BadTerm := d_BadTerm, E_BadTerm := E_BadTerm, EC_BadTerm := EC_BadTerm, ES_BadTerm := ES_BadTerm, EO_BadTerm := EO_BadTerm, FI_BadTerm := F_BadTerm, EB_BadTerm := ebn_D (x := "__init__") (qual := "BadTerm.__init__") (params := defArgs (mth 6)) (body := defBody (mth 6)) (scope := defScope (mth 6)) F_BadTerm (fun _ _ _ _ _ _ _ _ _ _ => ⟨_, rfl, rfl⟩) (fun _ _ _ _ _ _ _ _ _ _ => ⟨_, rfl, rfl⟩) (fun _ _ _ _ _ _ _ _ _ => ⟨_, rfl, rfl⟩), I_BadPaper := He.fAd K ("BadPaper", some "__init__"), dI_BadPaper := d_BadPaper, E_BadPaper := E_BadPaper, EC_BadPaper := EC_BadPaper, ES_BadPaper := ES_BadPaper, EO_BadPaper := EO_BadPaper, FI_BadPaper := F_BadPaper, EB_BadPaper := ebn_D (x := "__init__") (qual := "BadPaper.__init__") (params := defArgs (mth 7)) (body := defBody (mth 7)) (scope := defScope (mth 7)) F_BadPaper (fun _ _ _ _ _ _ _ _ _ _ => ⟨_, rfl, rfl⟩) (fun _ _ _ _ _ _ _ _ _ _ => ⟨_, rfl, rfl⟩) (fun _ _ _ _ _ _ _ _ _ => ⟨_, rfl, rfl⟩), I_BadText := He.fAd K ("BadText", some "__init__"), dI_BadText := d_BadText, E_BadText := E_BadText, EC_BadText := EC_BadText, ES_BadText := ES_BadText, EO_BadText := EO_BadText, FI_BadText := F_BadText, EB_BadText := ebn_D (x := "__init__") (qual := "BadText.__init__") (params := defArgs (mth 8)) (body := defBody (mth 8)) (scope := defScope (mth 8)) F_BadText (fun _ _ _ _ _ _ _ _ _ _ => ⟨_, rfl, rfl⟩) (fun _ _ _ _ _ _ _ _ _ _ => ⟨_, rfl, rfl⟩) (fun _ _ _ _ _ _ _ _ _ => ⟨_, rfl, rfl⟩), I_BadNumber := He.fAd K ("BadNumber", some "__init__"), dI_BadNumber := d_BadNumber, E_BadNumber := E_BadNumber, EC_BadNumber := EC_BadNumber, ES_BadNumber := ES_BadNumber, EO_BadNumber := EO_BadNumber, FI_BadNumber := F_BadNumber, EB_BadNumber := ebn_D (x := "__init__") (qual := "BadNumber.__init__") (params := defArgs (mth 9)) (body := defBody (mth 9)) (scope := defScope (mth 9)) F_BadNumber (fun _ _ _ _ _ _ _ _ _ _ => ⟨_, rfl, rfl⟩) (fun _ _ _ _ _ _ _ _ _ _ => ⟨_, rfl, rfl⟩) (fun _ _ _ _ _ _ _ _ _ => ⟨_, rfl, rfl⟩), I_BadLetters := He.fAd K ("BadLetters", some "__init__"), dI_BadLetters := d_BadLetters, E_BadLetters := E_BadLetters, EC_BadLetters := EC_BadLetters, ES_BadLetters := ES_BadLetters, EO_BadLetters := EO_BadLetters, FI_BadLetters := F_BadLetters, EB_BadLetters := ebn_D (x := "__init__") (qual := "BadLetters.__init__") (params := defArgs (mth 10)) (body := defBody (mth 10)) (scope := defScope (mth 10)) F_BadLetters (fun _ _ _ _ _ _ _ _ _ _ => ⟨_, rfl, rfl⟩) (fun _ _ _ _ _ _ _ _ _ _ => ⟨_, rfl, rfl⟩) (fun _ _ _ _ _ _ _ _ _ => ⟨_, rfl, rfl⟩), I_BadBook := He.fAd K ("BadBook", some "__init__"), dI_BadBook := d_BadBook, E_BadBook := E_BadBook, EC_BadBook := EC_BadBook, ES_BadBook := ES_BadBook, EO_BadBook := EO_BadBook, FI_BadBook := F_BadBook, EB_BadBook := ebn_D (x := "__init__") (qual := "BadBook.__init__") (params := defArgs (mth 11)) (body := defBody (mth 11)) (scope := defScope (mth 11)) F_BadBook (fun _ _ _ _ _ _ _ _ _ _ => ⟨_, rfl, rfl⟩) (fun _ _ _ _ _ _ _ _ _ _ => ⟨_, rfl, rfl⟩) (fun _ _ _ _ _ _ _ _ _ => ⟨_, rfl, rfl⟩), I_BadForm := He.fAd K ("BadForm", some "__init__"), dI_BadForm := d_BadForm, E_BadForm := E_BadForm, EC_BadForm := EC_BadForm, ES_BadForm := ES_BadForm, EO_BadForm := EO_BadForm, FI_BadForm := F_BadForm, EB_BadForm := ebn_D (x := "__init__") (qual := "BadForm.__init__") (params := defArgs (mth 12)) (body := defBody (mth 12)) (scope := defScope (mth 12)) F_BadForm (fun _ _ _ _ _ _ _ _ _ _ => ⟨_, rfl, rfl⟩) (fun _ _ _ _ _ _ _ _ _ _ => ⟨_, rfl, rfl⟩) (fun _ _ _ _ _ _ _ _ _ => ⟨_, rfl, rfl⟩), I_BadOrder := He.fAd K ("BadOrder", some "__init__"), dI_BadOrder := d_BadOrder, E_BadOrder := E_BadOrder, EC_BadOrder := EC_BadOrder, ES_BadOrder := ES_BadOrder, EO_BadOrder := EO_BadOrder, FI_BadOrder := F_BadOrder, EB_BadOrder := ebn_D (x := "__init__") (qual := "BadOrder.__init__") (params := defArgs (mth 13)) (body := defBody (mth 13)) (scope := defScope (mth 13)) F_BadOrder (fun _ _ _ _ _ _ _ _ _ _ => ⟨_, rfl, rfl⟩) (fun _ _ _ _ _ _ _ _ _ _ => ⟨_, rfl, rfl⟩) (fun _ _ _ _ _ _ _ _ _ => ⟨_, rfl, rfl⟩), I_BadMove := He.fAd K ("BadMove", some "__init__"), dI_BadMove := d_BadMove, E_BadMove := E_BadMove, EC_BadMove := EC_BadMove, ES_BadMove := ES_BadMove, EO_BadMove := EO_BadMove, FI_BadMove := F_BadMove, EB_BadMove := ebn_D (x := "__init__") (qual := "BadMove.__init__") (params := defArgs (mth 14)) (body := defBody (mth 14)) (scope := defScope (mth 14)) F_BadMove (fun _ _ _ _ _ _ _ _ _ _ => ⟨_, rfl, rfl⟩) (fun _ _ _ _ _ _ _ _ _ _ => ⟨_, rfl, rfl⟩) (fun _ _ _ _ _ _ _ _ _ => ⟨_, rfl, rfl⟩), I_BadDeed := He.fAd K ("BadDeed", some "__init__"), dI_BadDeed := d_BadDeed, E_BadDeed := E_BadDeed, EC_BadDeed := EC_BadDeed, ES_BadDeed := ES_BadDeed, EO_BadDeed := EO_BadDeed, FI_BadDeed := F_BadDeed, EB_BadDeed := ebn_D (x := "__init__") (qual := "BadDeed.__init__") (params := defArgs (mth 15)) (body := defBody (mth 15)) (scope := defScope (mth 15)) F_BadDeed (fun _ _ _ _ _ _ _ _ _ _ => ⟨_, rfl, rfl⟩) (fun _ _ _ _ _ _ _ _ _ _ => ⟨_, rfl, rfl⟩) (fun _ _ _ _ _ _ _ _ _ => ⟨_, rfl, rfl⟩), I_BadTheory := He.fAd K ("BadTheory", some "__init__"), dI_BadTheory := d_BadTheory, E_BadTheory := E_BadTheory, EC_BadTheory := EC_BadTheory, ES_BadTheory := ES_BadTheory, EO_BadTheory := EO_BadTheory, FI_BadTheory := F_BadTheory, EB_BadTheory := ebn_D (x := "__init__") (qual := "BadTheory.__init__") (params := defArgs (mth 16)) (body := defBody (mth 16)) (scope := defScope (mth 16)) F_BadTheory (fun _ _ _ _ _ _ _ _ _ _ => ⟨_, rfl, rfl⟩) (fun _ _ _ _ _ _ _ _ _ _ => ⟨_, rfl, rfl⟩) (fun _ _ _ _ _ _ _ _ _ => ⟨_, rfl, rfl⟩), I_TooMany := He.fAd K ("TooMany", some "__init__"), dI_TooMany := d_TooMany, E_TooMany := E_TooMany, EC_TooMany := EC_TooMany, ES_TooMany := ES_TooMany, EO_TooMany := EO_TooMany, FI_TooMany := F_TooMany, EB_TooMany := ebn_0 (x := "__init__") (qual := "TooMany.__init__") (params := defArgs (mth 17)) (body := defBody (mth 17)) (scope := defScope (mth 17)) F_TooMany (fun _ _ _ _ _ _ _ _ => rfl) (fun _ _ _ _ _ _ _ _ => rfl), I_NoSuch := He.fAd K ("NoSuch", some "__init__"), dI_NoSuch := d_NoSuch, E_NoSuch := E_NoSuch, EC_NoSuch := EC_NoSuch, ES_NoSuch := ES_NoSuch, EO_NoSuch := EO_NoSuch, FI_NoSuch := F_NoSuch, EB_NoSuch := ebn_D (x := "__init__") (qual := "NoSuch.__init__") (params := defArgs (mth 18)) (body := defBody (mth 18)) (scope := defScope (mth 18)) F_NoSuch (fun _ _ _ _ _ _ _ _ _ _ => ⟨_, rfl, rfl⟩) (fun _ _ _ _ _ _ _ _ _ _ => ⟨_, rfl, rfl⟩) (fun _ _ _ _ _ _ _ _ _ => ⟨_, rfl, rfl⟩), k_BadAssumptions := k_BadAssumptions, k_BadBook := k_BadBook, k_BadClaim := k_BadClaim, k_BadDeed := k_BadDeed, k_BadForm := k_BadForm, k_BadLetters := k_BadLetters, k_BadMove := k_BadMove, k_BadNumber := k_BadNumber, k_BadOrder := k_BadOrder, k_BadPaper := k_BadPaper, k_BadPoint := k_BadPoint, k_BadTerm := k_BadTerm, k_BadText := k_BadText, k_BadTheory := k_BadTheory, k_BadWorld := k_BadWorld, k_LookupError := k_LookupError, k_NoSuch := k_NoSuch, k_OverflowError := k_OverflowError, k_ProofError := k_ProofError, k_TooMany := k_TooMany, k_ValueError := k_ValueError, a__law_mixed := He.ga K "_law_mixed", d__law_mixed := d__law_mixed, g__law_mixed := He.glo_ok KX G (c.t.d.fact 18 (f := .glo "_law_mixed")), F__law_mixed := F__law_mixed, B__law_mixed := FunD.bindsN (ps := ["cell", "k"]) F__law_mixed (fun _ _ _ _ _ _ us h => match us, h with | [_, _], _ => rfl), a__law_draw := He.ga K "_law_draw", d__law_draw := d__law_draw, g__law_draw := He.glo_ok KX G (c.t.d.fact 19 (f := .glo "_law_draw")), F__law_draw := F__law_draw, B__law_draw := FunD.bindsN (ps := ["cell", "k"]) F__law_draw (fun _ _ _ _ _ _ us h => match us, h with | [_, _], _ => rfl), a__law_digit := He.ga K "_law_digit", d__law_digit := d__law_digit, g__law_digit := He.glo_ok KX G (c.t.d.fact 20 (f := .glo "_law_digit")), F__law_digit := F__law_digit, B__law_digit := FunD.bindsN (ps := ["state", "below"]) F__law_digit (fun _ _ _ _ _ _ us h => match us, h with | [_, _], _ => rfl), a__law_kinds := He.ga K "_law_kinds", d__law_kinds := d__law_kinds, g__law_kinds := He.glo_ok KX G (c.t.d.fact 21 (f := .glo "_law_kinds")), F__law_kinds := F__law_kinds, B__law_kinds := FunD.bindsN (ps := ["e"]) F__law_kinds (fun _ _ _ _ _ _ us h => match us, h with | [_], _ => rfl), a__law_valued := He.ga K "_law_valued", d__law_valued := d__law_valued, g__law_valued := He.glo_ok KX G (c.t.d.fact 22 (f := .glo "_law_valued")), F__law_valued := F__law_valued, B__law_valued := FunD.bindsN (ps := ["thing"]) F__law_valued (fun _ _ _ _ _ _ us h => match us, h with | [_], _ => rfl), a__law_placed := He.ga K "_law_placed", d__law_placed := d__law_placed, g__law_placed := He.glo_ok KX G (c.t.d.fact 23 (f := .glo "_law_placed")), F__law_placed := F__law_placed, B__law_placed := FunD.bindsN (ps := ["thing"]) F__law_placed (fun _ _ _ _ _ _ us h => match us, h with | [_], _ => rfl), a__law_right := He.ga K "_law_right", d__law_right := d__law_right, g__law_right := He.glo_ok KX G (c.t.d.fact 24 (f := .glo "_law_right")), F__law_right := F__law_right, B__law_right := FunD.bindsN (ps := ["thing"]) F__law_right (fun _ _ _ _ _ _ us h => match us, h with | [_], _ => rfl), a_law := He.ga K "law", d_law := d_law, g_law := He.glo_ok KX G (c.t.d.fact 25 (f := .glo "law")), F_law := F_law, B_law := FunD.bindsN (ps := ["script"]) F_law (fun _ _ _ _ _ _ us h => match us, h with | [_], _ => rfl), b_LookupError := He.free_ok KX G (c.t.d.fact 26 (f := .free "LookupError")), b_OverflowError := He.free_ok KX G (c.t.d.fact 27 (f := .free "OverflowError")), b_ValueError := He.free_ok KX G (c.t.d.fact 28 (f := .free "ValueError")), b_enumerate := He.free_ok KX G (c.t.d.fact 29 (f := .free "enumerate")), b_isinstance := He.free_ok KX G (c.t.d.fact 30 (f := .free "isinstance")), b_range := He.free_ok KX G (c.t.d.fact 31 (f := .free "range")), b_str := He.free_ok KX G (c.t.d.fact 32 (f := .free "str")), b_sum := He.free_ok KX G (c.t.d.fact 33 (f := .free "sum")) }, rfl⟩
theorem lawG (LAW : ∀ ns : List Int, ns.length ≤ 63 → (∀ z ∈ ns, Builtin.Int.intBits z ≤ 1048576) → m_law (ns.map D.int) = .ok (.bl true)) (w : World) (mg : Str → Option Value) (fa : Addr) (h : Heap) (Y : ∃ K : PySem.W.Frag, K.In h ∧ He.SaysX fal fnl [] tfl exl w h K) (G : h.Ns mainGlobals mg) (hmg : mg "law" = some (.ref fa)) : LawG PySem.Challenge.rw_prooforbar_k99_errors_by_hand w (L2.CX Rw.prog w) 5 63 "script" mg fa h := by
  obtain ⟨K, KX, c⟩ := Y
  letI tn : TN := ⟨[], by simp⟩
  obtain ⟨T, ha⟩ := tx KX G c 
  have efa : fa = T.a_law := by
    have e := T.g_law
    rw [hmg] at e
    cases e
    rfl
  subst efa
  refine ⟨K, false, T.d_law, tfl.map (He.cT K), spQ K T.C m_law, KX, ?_, ?_, ?_, fun s u => FunD.bindsA (ps := ["script"]) T.F_law (fun _ _ _ _ _ _ us h => match us, h with | [_], _ => rfl) s [u] rfl, askQ (fun p hp => ?_) LAW, fun base Kb Gb tb => ?_⟩
  · intro p hp
    obtain ⟨q, hq, rfl⟩ := List.mem_map.mp hp
    exact c.empty q hq
  · intro p hp
    obtain ⟨q, hq, rfl⟩ := List.mem_map.mp hp
    exact c.out q hq
  · intro p hp
    obtain ⟨q, hq, rfl⟩ := List.mem_map.mp hp
    exact PySem.W.codeHd_of_K KX (c.hd q hq)
  · exact (List.not_mem_nil (show p ∈ ([] : List (Addr × Str)) from hp)).elim
  · exact ok_law T
end K99
open PySem PySem.W PySem.Calls PyProof.Rows
theorem K99.whole (LAW : ∀ ns : List Int, ns.length ≤ 63 → (∀ z ∈ ns, Builtin.Int.intBits z ≤ 1048576) → K99.m_law (ns.map DL.D.int) = .ok (.bl true)) : PySem.Challenge.rw_prooforbar_k99_errors_by_hand.Holds := by
  w_on; o_law
  refine HandSHeadRun.head_any (r := K99.Rw) (q := view K99.Rw.prog [27]) (H := K99.hk) (ob := K99.ob) (M := 10000) (loose := (("ProofError" :: "BadClaim" :: "BadAssumptions" :: "BadWorld" :: "BadPoint" :: "BadTerm" :: "BadPaper" :: "BadText" :: "BadNumber" :: "BadLetters" :: "BadBook" :: "BadForm" :: "BadOrder" :: "BadMove" :: "BadDeed" :: "BadTheory" :: "TooMany" :: "NoSuch" :: "_law_mixed" :: "_law_draw" :: "_law_digit" :: "_law_kinds" :: "_law_valued" :: "_law_placed" :: "_law_right" :: []) : List PySem.Str)) (d := HandSHeadRun.topDef K99.Rw.prog 27) (kwd := []) K99.ob_eq
    (by kernel_rfl) (fun s => by kernel_rfl) K99.run (by kernel_rfl) (by kernel_rfl) (by kernel_rfl) (by rfl) (by first | assumption | decide +kernel) (by decide +kernel) ⟨rfl, rfl, rfl, rfl, rfl, by decide +kernel⟩ ?hw ?hc
  case hw => w_witness2
  case hc =>
    refine DL.walk_G (l := PySem.Challenge.rw_prooforbar_k99_errors_by_hand) (n := 63) (k := 5) (x := "script") (CX := L2.CX K99.Rw.prog) rfl (by decide) (by kernel_rfl) ⟨rfl, by decide, by decide⟩ ?F (fun _ _ _ _ _ z => ?_)
    case F =>
      intro w mg fa h Y G hmg0
      have hmg : mg ("law" : PySem.Str) = some (.ref fa) := by
        have e : (HandSHeadRun.topDef K99.Rw.prog 27).name = ("law" : PySem.Str) := by kernel_rfl
        rw [← e]
        exact hmg0
      exact K99.lawG LAW w mg fa h Y G hmg
    · obtain ⟨_, _, _, _, _, _, _, _, _, _, _, _, z⟩ := z
      exact z
end
section
set_option Elab.async false
set_option linter.all false
set_option maxRecDepth 100000
set_option maxHeartbeats 4000000
set_option autoImplicit false
/-! Plain laws of the mirrors' words: no program in sight. -/
namespace DL
open PySem
open L2 (atI ixN)

/-! ## results -/
theorem R.bind_assoc {α β γ : Type} (r : R α) (f : α → R β) (g : β → R γ) : (r >>= f) >>= g = r >>= fun x => f x >>= g := by cases r <;> rfl
@[simp] theorem bnd_lift {α β γ : Type} (r : R α) (s : DK) (k : α → DK → R β) : bnd (r >>= fun x => .ok (x, s)) k = r >>= fun x => k x s := by cases r <;> rfl
@[simp] theorem of_ite {α : Type} (c : Prop) [Decidable c] (a : α) : R.of (if c then some a else none) = if c then .ok a else .un := by by_cases h : c <;> simp [h]
@[simp] theorem fin_ok_nx (u : Unit) : fin (.ok (.nx u)) = .ok .non := rfl
@[simp] theorem fin_ok_rt (d : D) : fin (.ok (.rt d)) = .ok d := rfl
@[simp] theorem finW_rt {α S : Type} (d : α) : finW (.ok (.rt d) : R (Fl α S)) = .ok d := rfl
@[simp] theorem finW_ex {α S : Type} (c : Str) (d : D) : finW (.ex c d : R (Fl α S)) = .ex c d := rfl

/-! ## operators at known shapes -/
@[simp] theorem isa_int_int (i : Int) : isaD "int" (.int i) = some (.bl true) := rfl
@[simp] theorem isa_int_bl (i : Bool) : isaD "int" (.bl i) = some (.bl true) := rfl
@[simp] theorem isa_int_str (i : Str) : isaD "int" (.str i) = some (.bl false) := rfl
@[simp] theorem isa_int_tup (i : List D) : isaD "int" (.tup i) = some (.bl false) := rfl
@[simp] theorem isa_int_lst (i : List D) : isaD "int" (.lst i) = some (.bl false) := rfl
@[simp] theorem isa_int_non : isaD "int" .non = some (.bl false) := rfl
@[simp] theorem isa_bool_int (i : Int) : isaD "bool" (.int i) = some (.bl false) := rfl
@[simp] theorem isa_bool_bl (i : Bool) : isaD "bool" (.bl i) = some (.bl true) := rfl
@[simp] theorem isa_bool_str (i : Str) : isaD "bool" (.str i) = some (.bl false) := rfl
@[simp] theorem isa_bool_tup (i : List D) : isaD "bool" (.tup i) = some (.bl false) := rfl
@[simp] theorem isa_bool_lst (i : List D) : isaD "bool" (.lst i) = some (.bl false) := rfl
@[simp] theorem isa_bool_non : isaD "bool" .non = some (.bl false) := rfl
@[simp] theorem isa_str_int (i : Int) : isaD "str" (.int i) = some (.bl false) := rfl
@[simp] theorem isa_str_bl (i : Bool) : isaD "str" (.bl i) = some (.bl false) := rfl
@[simp] theorem isa_str_str (i : Str) : isaD "str" (.str i) = some (.bl true) := rfl
@[simp] theorem isa_str_tup (i : List D) : isaD "str" (.tup i) = some (.bl false) := rfl
@[simp] theorem isa_str_lst (i : List D) : isaD "str" (.lst i) = some (.bl false) := rfl
@[simp] theorem isa_str_non : isaD "str" .non = some (.bl false) := rfl
@[simp] theorem isa_tup_int (i : Int) : isaD "tuple" (.int i) = some (.bl false) := rfl
@[simp] theorem isa_tup_bl (i : Bool) : isaD "tuple" (.bl i) = some (.bl false) := rfl
@[simp] theorem isa_tup_str (i : Str) : isaD "tuple" (.str i) = some (.bl false) := rfl
@[simp] theorem isa_tup_tup (i : List D) : isaD "tuple" (.tup i) = some (.bl true) := rfl
@[simp] theorem isa_tup_lst (i : List D) : isaD "tuple" (.lst i) = some (.bl false) := rfl
@[simp] theorem isa_tup_non : isaD "tuple" .non = some (.bl false) := rfl
@[simp] theorem isa_lst_int (i : Int) : isaD "list" (.int i) = some (.bl false) := rfl
@[simp] theorem isa_lst_bl (i : Bool) : isaD "list" (.bl i) = some (.bl false) := rfl
@[simp] theorem isa_lst_str (i : Str) : isaD "list" (.str i) = some (.bl false) := rfl
@[simp] theorem isa_lst_tup (i : List D) : isaD "list" (.tup i) = some (.bl false) := rfl
@[simp] theorem isa_lst_lst (i : List D) : isaD "list" (.lst i) = some (.bl true) := rfl
@[simp] theorem isa_lst_non : isaD "list" .non = some (.bl false) := rfl
@[simp] theorem asI_int (b : Int) : (D.int b).asI = some b := rfl
@[simp] theorem add_int (a b : Int) : D.add (.int a) (.int b) = some (.int (a + b)) := rfl
@[simp] theorem sub_int (a b : Int) : D.sub (.int a) (.int b) = some (.int (a - b)) := rfl
@[simp] theorem le_int (a b : Int) : D.le (.int a) (.int b) = some (.bl (decide (a ≤ b))) := rfl
@[simp] theorem lt_int (a b : Int) : D.lt (.int a) (.int b) = some (.bl (decide (a < b))) := rfl
@[simp] theorem ge_int (a b : Int) : D.ge (.int a) (.int b) = some (.bl (decide (b ≤ a))) := rfl
@[simp] theorem gt_int (a b : Int) : D.gt (.int a) (.int b) = some (.bl (decide (b < a))) := rfl
@[simp] theorem neg_int (a : Int) : D.neg (.int a) = some (.int (-a)) := rfl
@[simp] theorem len_tup (l : List D) : D.len (.tup l) = some (.int l.length) := rfl
@[simp] theorem len_lst (l : List D) : D.len (.lst l) = some (.int l.length) := rfl
@[simp] theorem items_tup (l : List D) : (D.tup l).items = some l := rfl
@[simp] theorem items_lst (l : List D) : (D.lst l).items = some l := rfl
@[simp] theorem items_str (x : Str) : (D.str x).items = some (signs x) := rfl
@[simp] theorem tuple_tup (l : List D) : (D.tup l).tuple = some (.tup l) := rfl
@[simp] theorem tuple_lst (l : List D) : (D.lst l).tuple = some (.tup l) := rfl
@[simp] theorem listX_tup (l : List D) : (D.tup l).listX = some l := rfl
@[simp] theorem listX_lst (l : List D) : (D.lst l).listX = some l := rfl
@[simp] theorem isN_non (x : D) : D.isN x .non = some (.bl x.isNon) := rfl
@[simp] theorem isnotN_non (x : D) : D.isnotN x .non = some (.bl (!x.isNon)) := rfl
@[simp] theorem idx_tup (l : List D) (i : Int) : D.idx (.tup l) (.int i) = atI l i := rfl
@[simp] theorem idx_lst (l : List D) (i : Int) : D.idx (.lst l) (.int i) = atI l i := rfl
@[simp] theorem lidx_int (l : List D) (i : Int) : lidx l (.int i) = atI l i := rfl
@[simp] theorem slc_tup (l : List D) (a b : Option Int) : D.slc (.tup l) a b = some (.tup (cutD l a b)) := rfl
theorem atI_nat {α : Type} (l : List α) (i : Nat) : atI l (i : Int) = l[i]? := by
  unfold atI ixN
  rw [if_pos (by omega)]
  by_cases h : (i : Int) < (l.length : Nat)
  · rw [if_pos h]
    simp
  · rw [if_neg h, List.getElem?_eq_none (by omega)] <;> rfl
theorem atI_ofNat {α : Type} (l : List α) (i : Nat) : atI l (OfNat.ofNat i) = l[i]? := atI_nat l i
@[simp] theorem atI_zero {α : Type} (l : List α) : atI l 0 = l[0]? := atI_nat l 0
@[simp] theorem atI_one {α : Type} (l : List α) : atI l 1 = l[1]? := atI_nat l 1
theorem atI_some {α : Type} {l : List α} {i : Nat} (h : i < l.length) : atI l (i : Int) = some l[i] := by
  rw [atI_nat, List.getElem?_eq_getElem h]
theorem range1_nat {n : Nat} (h : n ≤ 1000000000) : range1 (.int n) = some ((List.range n).map fun (k : Nat) => D.int k) := by
  unfold range1 rngOk
  dsimp only
  rw [if_pos (by simp; omega)]
  simp
theorem range1_neg {i : Int} (h : i ≤ 0) (h2 : -1000000000 ≤ i) : range1 (.int i) = some [] := by
  unfold range1 rngOk
  dsimp only
  rw [if_pos (by simp; omega)]
  simp [Int.toNat_of_nonpos h]
theorem range1_any {i : Int} (h : i ≤ 1000000000) (h2 : -1000000000 ≤ i) : range1 (.int i) = some ((List.range i.toNat).map fun (k : Nat) => D.int k) := by
  unfold range1 rngOk
  dsimp only
  rw [if_pos (by simp; omega)]
  simp
theorem range2_nat {a b : Nat} (h : a ≤ 1000000000) (h2 : b ≤ 1000000000) : range2 (.int a) (.int b) = some ((List.range (b - a)).map fun (k : Nat) => D.int ((a + k : Nat) : Int)) := by
  unfold range2 rngOk
  have e : ((b : Int) - a).toNat = b - a := by omega
  dsimp only
  rw [if_pos (by simp; omega), e]
  simp

/-! ## equality of data that is compared -/
mutual
/-- data without errors -/
def D.ok : D → Bool
  | .exc _ _ => false
  | .tup l => D.okA l
  | .lst l => D.okA l
  | _ => true
def D.okA : List D → Bool
  | [] => true
  | d :: l => D.ok d && D.okA l
end
theorem okA_all : ∀ l : List D, D.okA l = l.all D.ok
  | [] => rfl
  | d :: l => by simp [D.okA, okA_all l]

/-! ## loops and comprehensions -/
section
variable {α : Type}
theorem compR_map (enc : α → D) (t : D → R Bool) (e : D → R D) (p : α → Bool) (g : α → D) : ∀ as : List α, (∀ a ∈ as, t (enc a) = .ok (p a)) → (∀ a ∈ as, p a = true → e (enc a) = .ok (g a)) → compR t e (as.map enc) = some ((as.filter p).map g)
  | [], _, _ => rfl
  | a :: as, ht, he => by
    have ih := compR_map enc t e p g as (fun b hb => ht b (List.mem_cons_of_mem _ hb)) fun b hb => he b (List.mem_cons_of_mem _ hb)
    rw [List.map_cons]
    unfold compR
    rw [ht a List.mem_cons_self]
    dsimp only
    by_cases h : p a = true
    · rw [if_pos h, he a List.mem_cons_self h, ih, List.filter_cons_of_pos h] <;> rfl
    · rw [if_neg h, ih, List.filter_cons_of_neg h]
theorem compL_map (enc : α → D) {t : D → R Bool} {e : D → R D} (p : α → Bool) (g : α → D) {as : List α} (hl : as.length ≤ lim) (ht : ∀ a ∈ as, t (enc a) = .ok (p a)) (he : ∀ a ∈ as, p a = true → e (enc a) = .ok (g a)) : compL t e (as.map enc) = some ((as.filter p).map g) := by
  unfold compL
  rw [List.length_map, if_pos hl]
  exact compR_map enc t e p g as ht he
/-- without a test -/
theorem compL_all (enc : α → D) {e : D → R D} (g : α → D) {as : List α} (hl : as.length ≤ lim) (he : ∀ a ∈ as, e (enc a) = .ok (g a)) : compL (fun _ => .ok true) e (as.map enc) = some (as.map g) := by
  rw [compL_map enc (fun _ => true) g hl (fun _ _ => rfl) fun a ha _ => he a ha, List.filter_eq_self.mpr fun _ _ => rfl]
theorem compL_id {e : D → R D} (g : D → D) {l : List D} (hl : l.length ≤ lim) (he : ∀ a ∈ l, e a = .ok (g a)) : compL (fun _ => .ok true) e l = some (l.map g) := by
  have := compL_all id g hl he
  rwa [List.map_id] at this
theorem compL_idp {t : D → R Bool} {e : D → R D} (p : D → Bool) (g : D → D) {l : List D} (hl : l.length ≤ lim) (ht : ∀ a ∈ l, t a = .ok (p a)) (he : ∀ a ∈ l, p a = true → e a = .ok (g a)) : compL t e l = some ((l.filter p).map g) := by
  have := compL_map id p g hl ht he
  rwa [List.map_id] at this
theorem boolsD_map (q : α → Bool) : ∀ as : List α, bools (as.map fun a => D.bl (q a)) = some (as.map q)
  | [] => rfl
  | a :: as => by
    rw [List.map_cons]
    unfold bools
    rw [boolsD_map q as] <;> rfl
@[simp] theorem lall_map (q : α → Bool) (as : List α) : lall (as.map fun a => D.bl (q a)) = some (.bl (as.all q)) := by
  unfold lall
  rw [boolsD_map]
  simp [List.all_map]
@[simp] theorem lany_map (q : α → Bool) (as : List α) : lany (as.map fun a => D.bl (q a)) = some (.bl (as.any q)) := by
  unfold lany
  rw [boolsD_map]
  simp [List.any_map]
theorem intsD_map (q : α → Int) : ∀ as : List α, intsD (as.map fun a => D.int (q a)) = some (as.map q)
  | [] => rfl
  | a :: as => by
    rw [List.map_cons]
    unfold intsD
    rw [intsD_map q as] <;> rfl
@[simp] theorem intsD_ints (ns : List Int) : intsD (ns.map D.int) = some ns := by
  have := intsD_map (fun n : Int => n) ns
  simpa using this
theorem lsum_map (q : α → Int) (as : List α) : lsum (as.map fun a => D.int (q a)) = some (.int (as.map q).sum) := by
  unfold lsum
  rw [intsD_map] <;> rfl
theorem strsD_map (q : α → Str) : ∀ as : List α, strsD (as.map fun a => D.str (q a)) = some (as.map q)
  | [] => rfl
  | a :: as => by
    rw [List.map_cons]
    unfold strsD
    rw [strsD_map q as] <;> rfl
/-- a loop that only looks -/
theorem forD_find {T : Type} (enc : α → D) {f : Unit → D → R (Fl T Unit)} (p : α → Bool) (g : α → T) : ∀ {as : List α}, (∀ a ∈ as, f () (enc a) = if p a = true then .ok (.rt (g a)) else .ok (.nx ())) → forD f (as.map enc) () = match as.find? p with
    | some a => .ok (.rt (g a))
    | none => .ok (.nx ())
  | [], _ => rfl
  | a :: as, h => by
    rw [List.map_cons]
    unfold forD
    rw [h a List.mem_cons_self]
    by_cases q : p a = true
    · rw [if_pos q, List.find?_cons_of_pos q] <;> rfl
    · rw [if_neg q, List.find?_cons_of_neg q]
      exact forD_find enc p g fun b hb => h b (List.mem_cons_of_mem _ hb)
/-- a loop that goes through -/
theorem forD_fold {T S : Type} (enc : α → D) {f : S → D → R (Fl T S)} (g : S → α → S) : ∀ {as : List α} {s : S}, (∀ s, ∀ a ∈ as, f s (enc a) = .ok (.nx (g s a))) → forD f (as.map enc) s = .ok (.nx (as.foldl g s))
  | [], _, _ => rfl
  | a :: as, s, h => by
    rw [List.map_cons]
    unfold forD
    rw [h s a List.mem_cons_self]
    exact forD_fold enc g fun s b hb => h s b (List.mem_cons_of_mem _ hb)
/-- .. where a word of the state holds -/
theorem forD_inv {T S : Type} (enc : α → D) {f : S → D → R (Fl T S)} (I : Nat → S → Prop) {as : List α} {s : S} (h0 : I 0 s) (h : ∀ (i : Nat) (hi : i < as.length) (s : S), I i s → ∃ s', f s (enc as[i]) = .ok (.nx s') ∧ I (i + 1) s') : ∃ s', forD f (as.map enc) s = .ok (.nx s') ∧ I as.length s' := by
  induction as generalizing s I with
  | nil => exact ⟨s, rfl, h0⟩
  | cons a as ih =>
    obtain ⟨s1, e1, h1⟩ := h 0 (Nat.zero_lt_succ _) s h0
    obtain ⟨s2, e2, h2⟩ := ih (I := fun i => I (i + 1)) h1 fun i hi s hs => h (i + 1) (Nat.succ_lt_succ hi) s hs
    refine ⟨s2, ?_, h2⟩
    rw [List.map_cons]
    unfold forD
    have e1' : f s (enc a) = .ok (.nx s1) := e1
    rw [e1']
    exact e2
theorem comp2R_map {β : Type} (enc : α → D) (enc2 : β → D) {t : D → R Bool} {w : D → R (List D)} {t1 : D → D → R Bool} {e : D → D → R D} (bs : α → List β) (g : α → β → D) : ∀ as : List α, (∀ a ∈ as, t (enc a) = .ok true) → (∀ a ∈ as, w (enc a) = .ok ((bs a).map enc2)) → (∀ a ∈ as, ∀ b ∈ bs a, t1 (enc a) (enc2 b) = .ok true) → (∀ a ∈ as, ∀ b ∈ bs a, e (enc a) (enc2 b) = .ok (g a b)) →
    comp2R t w t1 e (as.map enc) = some (as.flatMap fun a => (bs a).map (g a))
  | [], _, _, _, _ => rfl
  | a :: as, ht, hw, h1, he => by
    have ih := comp2R_map enc enc2 bs g as (fun b hb => ht b (List.mem_cons_of_mem _ hb)) (fun b hb => hw b (List.mem_cons_of_mem _ hb)) (fun b hb => h1 b (List.mem_cons_of_mem _ hb)) fun b hb => he b (List.mem_cons_of_mem _ hb)
    rw [List.map_cons]
    unfold comp2R
    rw [ht a List.mem_cons_self, hw a List.mem_cons_self]
    dsimp only
    rw [if_pos rfl, compR_map enc2 (t1 (enc a)) (e (enc a)) (fun _ => true) (g a) (bs a) (h1 a List.mem_cons_self) (fun b hb _ => he a List.mem_cons_self b hb), ih, List.filter_eq_self.mpr fun _ _ => rfl]
    simp
theorem comp2L_map {β : Type} (enc : α → D) (enc2 : β → D) {t : D → R Bool} {w : D → R (List D)} {t1 : D → D → R Bool} {e : D → D → R D} (bs : α → List β) (g : α → β → D) {as : List α} (hl : (as.flatMap fun a => (bs a).map (g a)).length ≤ lim) (ht : ∀ a ∈ as, t (enc a) = .ok true) (hw : ∀ a ∈ as, w (enc a) = .ok ((bs a).map enc2)) (h1 : ∀ a ∈ as, ∀ b ∈ bs a, t1 (enc a) (enc2 b) = .ok true) (he : ∀ a ∈ as, ∀ b ∈ bs a, e (enc a) (enc2 b) = .ok (g a b)) :
    comp2L t w t1 e (as.map enc) = some (as.flatMap fun a => (bs a).map (g a)) := by
  unfold comp2L
  rw [comp2R_map enc enc2 bs g as ht hw h1 he]
  dsimp only
  rw [if_pos hl]
end
end DL
end
section
set_option Elab.async false
set_option linter.all false
set_option maxRecDepth 100000
set_option maxHeartbeats 4000000
set_option autoImplicit false
namespace DL
open PySem
open L2 (atI ixN)
abbrev tn0 : TN := ⟨[], fun _ h => nomatch h⟩
/-! ## == of data -/
mutual
def D.good : D → Bool
  | .exc _ _ => false
  | .str x => PyData.strOk x
  | .tup l => D.goodA l
  | .lst l => D.goodA l
  | _ => true
def D.goodA : List D → Bool
  | [] => true
  | d :: l => D.good d && D.goodA l
end
mutual
def D.dep : D → Nat
  | .tup l => D.depA l + 1
  | .lst l => D.depA l + 1
  | _ => 0
def D.depA : List D → Nat
  | [] => 0
  | d :: l => max (D.dep d) (D.depA l)
end
mutual
/-- d == e -/
def D.sim : D → D → Bool
  | .non, .non => true
  | .bl a, .bl b => a == b
  | .bl a, .int j => (if a then 1 else 0) == j
  | .int i, .bl b => i == (if b then 1 else 0)
  | .int i, .int j => i == j
  | .str x, .str y => x == y
  | .lst xs, .lst ys => D.simA xs ys
  | .tup xs, .tup ys => D.simA xs ys
  | _, _ => false
def D.simA : List D → List D → Bool
  | [], [] => true
  | x :: xs, y :: ys => D.sim x y && D.simA xs ys
  | _, _ => false
end
theorem goodA_all : ∀ l : List D, D.goodA l = l.all D.good
  | [] => rfl
  | d :: l => by
    unfold D.goodA
    rw [goodA_all l] <;> rfl
mutual
theorem py_good : ∀ d : D, d.good = true → ∃ p, d.py = some p ∧ p.canLay0 = true ∧ p.depth = d.dep ∧ p.hasDict = false
  | .non, _ => ⟨_, rfl, rfl, rfl, rfl⟩
  | .bl _, _ => ⟨_, rfl, rfl, rfl, rfl⟩
  | .int _, _ => ⟨_, rfl, rfl, rfl, rfl⟩
  | .str _, h => ⟨_, rfl, h, rfl, rfl⟩
  | .tup l, h => by
    obtain ⟨ps, e, h1, h2, h3⟩ := pyA_good l h
    refine ⟨.tuple ps, ?_, h1, congrArg (· + 1) h2, h3⟩
    unfold D.py
    rw [e]
  | .lst l, h => by
    obtain ⟨ps, e, h1, h2, h3⟩ := pyA_good l h
    refine ⟨.list ps, ?_, h1, congrArg (· + 1) h2, h3⟩
    unfold D.py
    rw [e]
  | .exc _ _, h => nomatch h
theorem pyA_good : ∀ l : List D, D.goodA l = true → ∃ ps, D.pyA l = some ps ∧ PyData.canLayAll0 ps = true ∧ PyData.depthAll ps = D.depA l ∧ PyData.hasDictAll ps = false
  | [], _ => ⟨[], rfl, rfl, rfl, rfl⟩
  | d :: l, h => by
    obtain ⟨ha, hb⟩ := Bool.and_eq_true_iff.mp (show (D.good d && D.goodA l) = true from h)
    obtain ⟨p, e, h1, h2, h3⟩ := py_good d ha
    obtain ⟨ps, e', h1', h2', h3'⟩ := pyA_good l hb
    refine ⟨p :: ps, ?_, ?_, ?_, ?_⟩
    · unfold D.pyA
      rw [e, e']
    · exact Bool.and_eq_true_iff.mpr ⟨h1, h1'⟩
    · show max _ _ = max _ _
      rw [h2, h2']
    · show (_ || _) = false
      rw [h3, h3'] <;> rfl
end
theorem exc_py (c : Str) (x : D) : (D.exc c x).py = none := by
  unfold D.py
  rfl
mutual
theorem eqv_sim : ∀ (x y : D) (p q : PyData), x.py = some p → y.py = some q → PyData.eqv p q = D.sim x y := fun x y p q hx hy => by
  cases x with
  | non => cases hx; cases y <;> (try (cases hy; rfl)) <;> (try (rw [exc_py] at hy; cases hy)) <;> (unfold D.py at hy; split at hy <;> (cases hy <;> rfl))
  | bl a => cases hx; cases y <;> (try (cases hy; rfl)) <;> (try (rw [exc_py] at hy; cases hy)) <;> (unfold D.py at hy; split at hy <;> (cases hy <;> rfl))
  | int a => cases hx; cases y <;> (try (cases hy; rfl)) <;> (try (rw [exc_py] at hy; cases hy)) <;> (unfold D.py at hy; split at hy <;> (cases hy <;> rfl))
  | str a => cases hx; cases y <;> (try (cases hy; rfl)) <;> (try (rw [exc_py] at hy; cases hy)) <;> (unfold D.py at hy; split at hy <;> (cases hy <;> rfl))
  | exc c z => rw [exc_py] at hx; cases hx
  | tup l =>
    unfold D.py at hx
    split at hx
    · rename_i ps e
      cases hx
      cases y with
      | tup m =>
        unfold D.py at hy
        split at hy
        · rename_i qs e2
          cases hy
          exact eqvA_sim l m ps qs e e2
        · cases hy
      | lst m =>
        unfold D.py at hy
        split at hy <;> (cases hy <;> rfl)
      | exc c z => rw [exc_py] at hy; cases hy
      | _ => cases hy; rfl
    · cases hx
  | lst l =>
    unfold D.py at hx
    split at hx
    · rename_i ps e
      cases hx
      cases y with
      | lst m =>
        unfold D.py at hy
        split at hy
        · rename_i qs e2
          cases hy
          exact eqvA_sim l m ps qs e e2
        · cases hy
      | tup m =>
        unfold D.py at hy
        split at hy <;> (cases hy <;> rfl)
      | exc c z => rw [exc_py] at hy; cases hy
      | _ => cases hy; rfl
    · cases hx
theorem eqvA_sim : ∀ (l m : List D) (ps qs : List PyData), D.pyA l = some ps → D.pyA m = some qs → PyData.eqvAll ps qs = D.simA l m
  | [], [], ps, qs, h1, h2 => by
    cases h1
    cases h2
    rfl
  | [], y :: m, ps, qs, h1, h2 => by
    cases h1
    unfold D.pyA at h2
    split at h2 <;> (cases h2 <;> rfl)
  | x :: l, [], ps, qs, h1, h2 => by
    cases h2
    unfold D.pyA at h1
    split at h1 <;> (cases h1 <;> rfl)
  | x :: l, y :: m, ps, qs, h1, h2 => by
    unfold D.pyA at h1 h2
    split at h1
    · rename_i p ps' e1 e2
      cases h1
      split at h2
      · rename_i q qs' e3 e4
        cases h2
        show (_ && _) = (_ && _)
        rw [eqv_sim x y p q e1 e3, eqvA_sim l m ps' qs' e2 e4]
      · cases h2
    · cases h1
end
theorem okPy_good {d : D} (h : d.good = true) (hd : d.dep ≤ 64) : ∃ p, d.okPy = some p ∧ d.py = some p := by
  obtain ⟨p, e, h1, h2, _⟩ := py_good d h
  refine ⟨p, ?_, e⟩
  unfold D.okPy
  rw [e]
  dsimp only
  rw [if_pos]
  show (_ && _) = true
  rw [h1, Bool.true_and]
  exact decide_eq_true (by rw [h2]; exact hd)
theorem eqb_sim {x y : D} (hx : x.good = true) (hy : y.good = true) (dx : x.dep ≤ 64) (dy : y.dep ≤ 64) : D.eqb x y = some (D.sim x y) := by
  obtain ⟨p, e1, e2⟩ := okPy_good hx dx
  obtain ⟨q, e3, e4⟩ := okPy_good hy dy
  unfold D.eqb
  rw [e1, e3]
  exact congrArg some (eqv_sim x y p q e2 e4)
theorem eq_sim {x y : D} (hx : x.good = true) (hy : y.good = true) (dx : x.dep ≤ 64) (dy : y.dep ≤ 64) : D.eq x y = some (.bl (D.sim x y)) := by
  unfold D.eq
  rw [eqb_sim hx hy dx dy] <;> rfl
theorem ne_sim {x y : D} (hx : x.good = true) (hy : y.good = true) (dx : x.dep ≤ 64) (dy : y.dep ≤ 64) : D.ne x y = some (.bl (!D.sim x y)) := by
  unfold D.ne
  rw [eqb_sim hx hy dx dy] <;> rfl
@[simp] theorem eq_intint (a b : Int) : D.eq (.int a) (.int b) = some (.bl (a == b)) := eq_sim rfl rfl (Nat.zero_le _) (Nat.zero_le _)
@[simp] theorem ne_intint (a b : Int) : D.ne (.int a) (.int b) = some (.bl (!(a == b))) := ne_sim rfl rfl (Nat.zero_le _) (Nat.zero_le _)
mutual
theorem sim_refl : ∀ d : D, d.good = true → D.sim d d = true
  | .non, _ => rfl
  | .bl b, _ => by simp [D.sim]
  | .int i, _ => by simp [D.sim]
  | .str x, _ => by simp [D.sim]
  | .tup l, h => simA_refl l h
  | .lst l, h => simA_refl l h
  | .exc _ _, h => nomatch h
theorem simA_refl : ∀ l : List D, D.goodA l = true → D.simA l l = true
  | [], _ => rfl
  | d :: l, h => by
    obtain ⟨ha, hb⟩ := Bool.and_eq_true_iff.mp (show (D.good d && D.goodA l) = true from h)
    exact Bool.and_eq_true_iff.mpr ⟨sim_refl d ha, simA_refl l hb⟩
end
/-- a list of ints, of texts -/
theorem goodA_ints (ns : List Int) : D.goodA (ns.map D.int) = true := by
  rw [goodA_all]
  simp [D.good]
theorem depA_ints (ns : List Int) : D.depA (ns.map D.int) = 0 := by
  induction ns with
  | nil => rfl
  | cons n ns ih =>
    show max 0 _ = 0
    rw [ih] <;> rfl
theorem depA_strs (ns : List Str) : D.depA (ns.map D.str) = 0 := by
  induction ns with
  | nil => rfl
  | cons n ns ih =>
    show max 0 _ = 0
    rw [ih] <;> rfl
theorem simA_ints : ∀ ns ms : List Int, D.simA (ns.map D.int) (ms.map D.int) = decide (ns = ms)
  | [], [] => rfl
  | [], _ :: _ => rfl
  | _ :: _, [] => rfl
  | n :: ns, m :: ms => by
    show ((n == m) && _) = _
    rw [simA_ints ns ms]
    by_cases h : n = m <;> by_cases h2 : ns = ms <;> simp [h, h2]
theorem simA_strs : ∀ ns ms : List Str, D.simA (ns.map D.str) (ms.map D.str) = decide (ns = ms)
  | [], [] => rfl
  | [], _ :: _ => rfl
  | _ :: _, [] => rfl
  | n :: ns, m :: ms => by
    show ((n == m) && _) = _
    rw [simA_strs ns ms]
    by_cases h : n = m <;> by_cases h2 : ns = ms <;> simp [h, h2]
theorem simA_len : ∀ {l m : List D}, D.simA l m = true → l.length = m.length
  | [], [], _ => rfl
  | _ :: _, _ :: _, h => congrArg (· + 1) (simA_len (Bool.and_eq_true_iff.mp h).2)
/-- a list against the empty one -/
theorem simA_nil (l : List D) : D.simA l [] = l.isEmpty := by cases l <;> rfl
theorem eq_nil {l : List D} (h : D.goodA l = true) (hd : D.depA l ≤ 63) : D.eq (.lst l) (.lst []) = some (.bl l.isEmpty) := by
  rw [eq_sim (x := .lst l) (y := .lst []) h rfl (Nat.succ_le_succ hd) (by decide)]
  show some (D.bl (D.simA l [])) = _
  rw [simA_nil]
theorem ne_nil {l : List D} (h : D.goodA l = true) (hd : D.depA l ≤ 63) : D.ne (.lst l) (.lst []) = some (.bl (!l.isEmpty)) := by
  rw [ne_sim (x := .lst l) (y := .lst []) h rfl (Nat.succ_le_succ hd) (by decide)]
  show some (D.bl (!D.simA l [])) = _
  rw [simA_nil]
/-! ## texts -/
theorem len_str {x : Str} (h : x.length ≤ lim) : D.len (.str x) = some (.int x.cps.toList.length) := by
  show (if x.length ≤ lim then some (D.int (x.length : Nat)) else none) = _
  rw [if_pos h]
  simp [Str.length]
theorem idx_str {x : Str} {k : Nat} (h : x.length ≤ lim) (hk : k < x.cps.toList.length) : D.idx (.str x) (.int (k : Int)) = some (.str ⟨#[x.cps.toList[k]]⟩) := by
  show (if x.length ≤ lim then (atI x.cps.toList (k : Int)).map (fun c => D.str ⟨#[c]⟩) else none) = _
  rw [if_pos h, atI_nat, List.getElem?_eq_getElem hk] <;> rfl
theorem sing_lt {a b : Nat} : ([a] : List Nat) < [b] ↔ a < b := by simp [List.cons_lt_cons_iff]
theorem lt_sign (a b : Nat) : D.lt (.str ⟨#[a]⟩) (.str ⟨#[b]⟩) = some (.bl (decide (a < b))) := by
  show some (D.bl (decide (([a] : List Nat) < [b]))) = _
  simp only [sing_lt]
theorem le_sign (a b : Nat) : D.le (.str ⟨#[a]⟩) (.str ⟨#[b]⟩) = some (.bl (decide (a ≤ b))) := by
  show some (D.bl (!decide (([b] : List Nat) < [a]))) = _
  simp only [sing_lt]
  by_cases h : a ≤ b
  · simp [h]
  · simp [h]
    omega
/-! ## repr -/
theorem repr_eq {d : D} {s : Str} (h : d.shows = some s) : D.repr d = some (.str s) := by
  unfold D.repr
  rw [h] <;> rfl
end DL
end
section
set_option Elab.async false
set_option linter.all false
set_option maxRecDepth 100000
set_option maxHeartbeats 4000000
set_option autoImplicit false
namespace DL
open PySem
open L2 (atI ixN)
/-! ## r is an answer of which Q holds -/
def wp {α : Type} (r : R α) (Q : α → Prop) : Prop := ∃ a, r = .ok a ∧ Q a
section
variable {α β T S S1 : Type}
theorem wp_ok {a : α} {Q : α → Prop} (h : Q a) : wp (.ok a) Q := ⟨a, rfl, h⟩
theorem wp_mono {r : R α} {Q Q' : α → Prop} (h : wp r Q) (l : ∀ a, Q a → Q' a) : wp r Q' := by
  obtain ⟨a, e, q⟩ := h
  exact ⟨a, e, l a q⟩
theorem wp_bind {r : R α} {k : α → R β} {Q : β → Prop} (h : wp r fun a => wp (k a) Q) : wp (r >>= k) Q := by
  obtain ⟨a, rfl, b, e, q⟩ := h
  exact ⟨b, e, q⟩
theorem wp_bnd {r : R (α × DK)} {k : α → DK → R β} {Q : β → Prop} (h : wp r fun z => wp (k z.1 z.2) Q) : wp (bnd r k) Q := wp_bind h
def qSeq (k : S1 → R (Fl T S)) (Q : Fl T S → Prop) : Fl T S1 → Prop
  | .nx s => wp (k s) Q
  | .rt t => Q (.rt t)
theorem wp_seq {r : R (Fl T S1)} {k : S1 → R (Fl T S)} {Q : Fl T S → Prop} (h : wp r (qSeq k Q)) : wp (M.seq r k) Q := by
  obtain ⟨a, rfl, q⟩ := h
  cases a with
  | nx s => exact q
  | rt t => exact ⟨_, rfl, q⟩
def qFinS (Q : D × DK → Prop) : Fl (D × DK) DK → Prop
  | .nx s => Q (.non, s)
  | .rt d => Q d
theorem wp_finS {r : R (Fl (D × DK) DK)} {Q : D × DK → Prop} (h : wp r (qFinS Q)) : wp (finS r) Q := by
  obtain ⟨a, rfl, q⟩ := h
  cases a with
  | nx s => exact ⟨_, rfl, q⟩
  | rt t => exact ⟨_, rfl, q⟩
def qFin (Q : D → Prop) : Fl D Unit → Prop
  | .nx _ => Q .non
  | .rt d => Q d
theorem wp_fin {r : R (Fl D Unit)} {Q : D → Prop} (h : wp r (qFin Q)) : wp (fin r) Q := by
  obtain ⟨a, rfl, q⟩ := h
  cases a with
  | nx s => exact ⟨_, rfl, q⟩
  | rt t => exact ⟨_, rfl, q⟩
theorem wp_of {o : Option α} {a : α} {Q : α → Prop} (e : o = some a) (h : Q a) : wp (R.of o) Q := ⟨a, by rw [e] <;> rfl, h⟩
theorem wp_eq {r : R α} {a : α} {Q : α → Prop} (e : r = .ok a) (h : Q a) : wp r Q := ⟨a, e, h⟩
theorem wp_if {c : Bool} {a b : R α} {Q : α → Prop} (h1 : c = true → wp a Q) (h2 : c = false → wp b Q) : wp (if c = true then a else b) Q := by
  cases c with
  | true => exact h1 rfl
  | false => exact h2 rfl
def qTurn (P : S → Prop) : Fl T S → Prop
  | .nx s => P s
  | .rt _ => False
/-- a loop that goes through, by a word of the state -/
theorem wp_for (enc : α → D) {f : S → D → R (Fl T S)} (I : Nat → S → Prop) {as : List α} {s : S} {Q : Fl T S → Prop} (h0 : I 0 s) (h : ∀ (i : Nat) (hi : i < as.length) (s : S), I i s → wp (f s (enc as[i])) (qTurn (I (i + 1)))) (hk : ∀ s, I as.length s → Q (.nx s)) : wp (forD f (as.map enc) s) Q := by
  obtain ⟨s', e, hI⟩ := forD_inv enc (f := f) I h0 fun i hi s hs => by
    obtain ⟨a, e, q⟩ := h i hi s hs
    cases a with
    | nx s' => exact ⟨s', e, q⟩
    | rt t => exact q.elim
  exact ⟨_, e, hk s' hI⟩
/-- a comprehension with the state, by a word of it -/
theorem wp_compLS {t : DK → D → R (Bool × DK)} {e : DK → D → R (D × DK)} (enc : α → D) (I : List α → List D → DK → Prop) {as : List α} {s : DK} {Q : List D × DK → Prop} (hl : as.length ≤ lim) (h0 : I [] [] s)
    (h : ∀ (pre post : List α) (a : α) (out : List D) (s : DK), as = pre ++ a :: post → I pre out s → wp (t s (enc a)) fun z => if z.1 = true then wp (e z.2 (enc a)) (fun y => I (pre ++ [a]) (out ++ [y.1]) y.2) else I (pre ++ [a]) out z.2)
    (hk : ∀ out s, I as out s → Q (out, s)) : wp (R.of (compLS t e (as.map enc) s)) Q := by
  have key : ∀ (bs pre : List α) (out : List D) (s : DK), as = pre ++ bs → I pre out s → ∃ more s', compRS t e (bs.map enc) s = some (more, s') ∧ I (pre ++ bs) (out ++ more) s' := by
    intro bs
    induction bs with
    | nil => exact fun pre out s _ hI => ⟨[], s, rfl, by simpa using hI⟩
    | cons b bs ih =>
      intro pre out s hb hI
      obtain ⟨z, e1, q1⟩ := h pre bs b out s hb hI
      rw [List.map_cons]
      unfold compRS
      rw [e1]
      dsimp only
      by_cases hz : z.1 = true
      · rw [if_pos hz] at q1
        obtain ⟨y, e2, q2⟩ := q1
        obtain ⟨more, s', e3, q3⟩ := ih _ _ _ (by rw [hb]; simp) q2
        refine ⟨y.1 :: more, s', ?_, by simpa using q3⟩
        obtain ⟨z1, z2⟩ := z
        dsimp only at hz e2 e3 ⊢
        subst hz
        rw [if_pos rfl, e2]
        dsimp only
        rw [e3] <;> rfl
      · rw [if_neg hz] at q1
        obtain ⟨more, s', e3, q3⟩ := ih _ _ _ (by rw [hb]; simp) q1
        refine ⟨more, s', ?_, by simpa using q3⟩
        obtain ⟨z1, z2⟩ := z
        dsimp only at hz e3 ⊢
        rw [if_neg hz, e3]
  obtain ⟨more, s', e1, q⟩ := key as [] [] s rfl h0
  refine ⟨(more, s'), ?_, hk more s' (by simpa using q)⟩
  unfold compLS
  rw [List.length_map, if_pos hl, e1] <;> rfl
end
end DL
end
section
set_option Elab.async false
set_option linter.all false
set_option maxRecDepth 100000
set_option maxHeartbeats 4000000
set_option autoImplicit false
/-! Plain laws: while loops, stacks. -/
namespace DL
open PySem
open L2 (atI ixN)
section
variable {S T α : Type}
def qStep (P : Nat → S → Prop) (Q : Fl T S → Prop) (n : Nat) : Fl T S → Prop
  | .nx s => ∃ m, m < n ∧ P m s
  | .rt t => Q (.rt t)
/-- a while loop by a word of the state that holds a number that falls -/
theorem wp_while {c : S → R Bool} {f : S → R (Fl T S)} (P : Nat → S → Prop) {Q : Fl T S → Prop}
    (h : ∀ n s, P n s → wp (c s) fun b => if b = true then wp (f s) (qStep P Q n) else Q (.nx s)) : ∀ (fuel n : Nat) (s : S), n < fuel → P n s → wp (whileD c f fuel s) Q
  | 0, n, s, l, _ => absurd l (Nat.not_lt_zero _)
  | fuel + 1, n, s, l, hP => by
    obtain ⟨b, e1, h1⟩ := h n s hP
    unfold whileD
    rw [e1]
    show wp (if b = true then M.seq (f s) (whileD c f fuel) else .ok (.nx s)) Q
    cases b with
    | false => exact wp_ok h1
    | true =>
      rw [if_pos rfl] at h1 ⊢
      obtain ⟨z, e2, h2⟩ := h1
      rw [e2]
      cases z with
      | rt t => exact wp_ok h2
      | nx s' =>
        obtain ⟨m, lm, hm⟩ := h2
        exact wp_while P h fuel m s' (by omega) hm
theorem popD_snoc {β : Type} (l : List D) (x : D) (k : List D → D → R β) : popD (l ++ [x]) k = k l x := by
  unfold popD
  simp
theorem appD_lt {β : Type} {l : List D} {x : D} {k : List D → R β} (h : l.length < lim) : appD l x k = k (l ++ [x]) := by
  unfold appD
  rw [if_pos h]
@[simp] theorem lnilN_nil (xs : List D) : lnilN xs [] = some (.bl (!xs.isEmpty)) := rfl
@[simp] theorem lnilE_nil (xs : List D) : lnilE xs [] = some (.bl xs.isEmpty) := rfl
/-- a row of whole numbers as a tuple -/
def natsD (p : List Nat) : D := .tup (p.map fun (k : Nat) => D.int k)
theorem natsD_len (p : List Nat) : D.len (natsD p) = some (.int (p.length : Nat)) := by
  show some (D.int ((p.map fun (k : Nat) => D.int k).length : Nat)) = _
  rw [List.length_map]
theorem natsD_seq (p : List Nat) : (natsD p).asSeq = some (p.map fun (k : Nat) => D.int k) := rfl
theorem natsD_snoc (p : List Nat) (k : Nat) : D.tup (p.map (fun (k : Nat) => D.int k) ++ [D.int k]) = natsD (p ++ [k]) := by
  unfold natsD
  simp
theorem natsD_good (p : List Nat) : (natsD p).good = true ∧ (natsD p).dep ≤ 1 := by
  have h : ∀ p : List Nat, D.goodA (p.map fun (k : Nat) => D.int k) = true ∧ D.depA (p.map fun (k : Nat) => D.int k) = 0 := fun p => by
    induction p with
    | nil => exact ⟨rfl, rfl⟩
    | cons a p ih =>
      refine ⟨?_, ?_⟩
      · show (D.good (D.int a) && D.goodA _) = true
        rw [ih.1]; rfl
      · show max (D.dep (D.int a)) (D.depA _) = 0
        rw [ih.2]; rfl
  exact ⟨(h p).1, by show D.depA _ + 1 ≤ 1; rw [(h p).2]; decide⟩
theorem eq_strs {a b : Str} (ha : PyData.strOk a = true) (hb : PyData.strOk b = true) : D.eq (.str a) (.str b) = some (.bl (a == b)) := eq_sim ha hb (Nat.zero_le _) (Nat.zero_le _)
theorem inB_strs (x : Str) (ks : List Str) : D.inB (.str x) (.lst (ks.map D.str)) = some (decide (x ∈ ks)) := by
  have h : (ks.map D.str).all D.flat = true := by
    rw [List.all_map]
    exact List.all_eq_true.mpr fun _ _ => rfl
  show (if (D.str x).flat = true ∧ (ks.map D.str).all D.flat = true then some ((ks.map D.str).any fun y => D.eqF y (.str x)) else _) = _
  rw [if_pos ⟨rfl, h⟩]
  congr 1
  rw [List.any_map]
  induction ks with
  | nil => simp
  | cons k ks ih =>
    rw [List.all_map] at h
    have ih' := ih (by rw [List.all_map]; exact List.all_eq_true.mpr fun _ _ => rfl)
    rw [List.any_cons, ih']
    show ((k == x) || decide (x ∈ ks)) = _
    by_cases e : k = x
    · subst e; simp
    · have e' : x ≠ k := fun z => e z.symm
      simp [e, e']
theorem notin_strs (x : Str) (ks : List Str) : D.notin (.str x) (.lst (ks.map D.str)) = some (.bl (!decide (x ∈ ks))) := by
  unfold D.notin
  rw [inB_strs] <;> rfl
theorem inn_strs (x : Str) (ks : List Str) : D.inn (.str x) (.lst (ks.map D.str)) = some (.bl (decide (x ∈ ks))) := by
  unfold D.inn
  rw [inB_strs] <;> rfl
theorem eq_tnil {l : List D} (h : D.goodA l = true) (hd : D.depA l ≤ 63) : D.eq (.tup l) (.tup []) = some (.bl l.isEmpty) := by
  rw [eq_sim (x := .tup l) (y := .tup []) h rfl (Nat.succ_le_succ hd) (by decide)]
  show some (D.bl (D.simA l [])) = _
  rw [simA_nil]
theorem ne_tnil {l : List D} (h : D.goodA l = true) (hd : D.depA l ≤ 63) : D.ne (.tup l) (.tup []) = some (.bl (!l.isEmpty)) := by
  rw [ne_sim (x := .tup l) (y := .tup []) h rfl (Nat.succ_le_succ hd) (by decide)]
  show some (D.bl (!D.simA l [])) = _
  rw [simA_nil]
/-- a number between bounds, one by one -/
theorem forD_nil {T S : Type} (f : S → D → R (Fl T S)) (s : S) : forD f [] s = .ok (.nx s) := rfl
theorem forD_cons {T S : Type} (f : S → D → R (Fl T S)) (x : D) (xs : List D) (s : S) : forD f (x :: xs) s = M.seq (f s x) (forD f xs) := rfl
end
/-! ## x in a tuple, a list, of data -/
theorem eqF_sim (x y : D) (hx : x.flat = true) (hy : y.flat = true) : D.eqF y x = D.sim y x := by
  cases x <;> cases y <;> first | rfl | (cases hx; done) | (cases hy; done)
theorem any_eqv {x : D} {p : PyData} (hp : x.py = some p) : ∀ {l : List D} {ps : List PyData}, D.pyA l = some ps → (ps.any fun z => PyData.eqv z p) = l.any fun y => D.sim y x
  | [], ps, h => by
    cases h
    rfl
  | d :: l, ps, h => by
    unfold D.pyA at h
    cases q1 : d.py with
    | none =>
      rw [q1] at h
      cases h
    | some z =>
      cases q2 : D.pyA l with
      | none =>
        rw [q1, q2] at h
        cases h
      | some zs =>
        rw [q1, q2] at h
        cases h
        rw [List.any_cons, List.any_cons, eqv_sim d x z p q1 hp, any_eqv hp q2]
theorem any_flat {x : D} (hx : x.flat = true) : ∀ {l : List D}, l.all D.flat = true → (l.any fun y => D.eqF y x) = l.any fun y => D.sim y x
  | [], _ => rfl
  | d :: l, h => by
    rw [List.all_cons, Bool.and_eq_true] at h
    rw [List.any_cons, List.any_cons, eqF_sim x d hx h.1, any_flat hx h.2]
theorem inB_tup {x : D} {l : List D} (hx : x.good = true) (dx : x.dep ≤ 64) (hl : D.goodA l = true) (dl : D.depA l ≤ 63) : D.inB x (.tup l) = some (l.any fun y => D.sim y x) := by
  have e : D.inB x (.tup l) = (if x.flat = true ∧ l.all D.flat = true then some (l.any fun y => D.eqF y x) else (match x.okPy, (D.tup l).okPy with
    | some p, some (.tuple ps) => some (ps.any fun z => PyData.eqv z p)
    | _, _ => none)) := by
    cases x <;> rfl
  rw [e]
  by_cases h : x.flat = true ∧ l.all D.flat = true
  · rw [if_pos h, any_flat h.1 h.2]
  · rw [if_neg h]
    obtain ⟨p, e1, e2⟩ := okPy_good hx dx
    obtain ⟨q, e3, e4⟩ := okPy_good (d := .tup l) hl (Nat.succ_le_succ dl)
    unfold D.py at e4
    cases q2 : D.pyA l with
    | none =>
      rw [q2] at e4
      cases e4
    | some ps =>
      rw [q2] at e4
      cases e4
      rw [e1, e3]
      show some (ps.any fun z => PyData.eqv z p) = _
      rw [any_eqv e2 q2]
theorem inB_lst {x : D} {l : List D} (hx : x.good = true) (dx : x.dep ≤ 64) (hl : D.goodA l = true) (dl : D.depA l ≤ 63) : D.inB x (.lst l) = some (l.any fun y => D.sim y x) := by
  have e : D.inB x (.lst l) = (if x.flat = true ∧ l.all D.flat = true then some (l.any fun y => D.eqF y x) else (match x.okPy, (D.lst l).okPy with
    | some p, some (.list ps) => some (ps.any fun z => PyData.eqv z p)
    | _, _ => none)) := by
    cases x <;> rfl
  rw [e]
  by_cases h : x.flat = true ∧ l.all D.flat = true
  · rw [if_pos h, any_flat h.1 h.2]
  · rw [if_neg h]
    obtain ⟨p, e1, e2⟩ := okPy_good hx dx
    obtain ⟨q, e3, e4⟩ := okPy_good (d := .lst l) hl (Nat.succ_le_succ dl)
    unfold D.py at e4
    cases q2 : D.pyA l with
    | none =>
      rw [q2] at e4
      cases e4
    | some ps =>
      rw [q2] at e4
      cases e4
      rw [e1, e3]
      show some (ps.any fun z => PyData.eqv z p) = _
      rw [any_eqv e2 q2]
theorem inn_tup {x : D} {l : List D} (hx : x.good = true) (dx : x.dep ≤ 64) (hl : D.goodA l = true) (dl : D.depA l ≤ 63) : D.inn x (.tup l) = some (.bl (l.any fun y => D.sim y x)) := by
  unfold D.inn
  rw [inB_tup hx dx hl dl] <;> rfl
theorem inn_lst {x : D} {l : List D} (hx : x.good = true) (dx : x.dep ≤ 64) (hl : D.goodA l = true) (dl : D.depA l ≤ 63) : D.inn x (.lst l) = some (.bl (l.any fun y => D.sim y x)) := by
  unfold D.inn
  rw [inB_lst hx dx hl dl] <;> rfl
theorem notin_tup {x : D} {l : List D} (hx : x.good = true) (dx : x.dep ≤ 64) (hl : D.goodA l = true) (dl : D.depA l ≤ 63) : D.notin x (.tup l) = some (.bl (!l.any fun y => D.sim y x)) := by
  unfold D.notin
  rw [inB_tup hx dx hl dl] <;> rfl
theorem notin_lst {x : D} {l : List D} (hx : x.good = true) (dx : x.dep ≤ 64) (hl : D.goodA l = true) (dl : D.depA l ≤ 63) : D.notin x (.lst l) = some (.bl (!l.any fun y => D.sim y x)) := by
  unfold D.notin
  rw [inB_lst hx dx hl dl] <;> rfl
/-! ## calls with as many arguments as they want -/
theorem mS0_c (m : DK → R (D × DK)) (s : DK) : mS0 m s [] = m s := rfl
theorem mS1_c (m : DK → D → R (D × DK)) (s : DK) (a : D) : mS1 m s [a] = m s a := rfl
theorem mS2_c (m : DK → D → D → R (D × DK)) (s : DK) (a b : D) : mS2 m s [a, b] = m s a b := rfl
theorem mS3_c (m : DK → D → D → D → R (D × DK)) (s : DK) (a b c : D) : mS3 m s [a, b, c] = m s a b c := rfl
theorem m1_c (m : D → R D) (a : D) : m1 m [a] = m a := rfl
theorem m2_c (m : D → D → R D) (a b : D) : m2 m [a, b] = m a b := rfl
theorem m3_c (m : D → D → D → R D) (a b c : D) : m3 m [a, b, c] = m a b c := rfl
theorem m4_c (m : D → D → D → D → R D) (a b c d : D) : m4 m [a, b, c, d] = m a b c d := rfl
theorem mW2_c (m : D → D → R DK) (a b : D) : mW2 m [a, b] = m a b := rfl
end DL
namespace DL
section
variable {S1 S T : Type}
def qSeqP (P : S1 → Prop) (Q : Fl T S → Prop) : Fl T S1 → Prop
  | .nx s => P s
  | .rt t => Q (.rt t)
/-- one after the other, by a word between -/
theorem wp_seqP {r : R (Fl T S1)} {k : S1 → R (Fl T S)} {Q : Fl T S → Prop} (P : S1 → Prop) (h : wp r (qSeqP P Q)) (leaf : ∀ s, P s → wp (k s) Q) : wp (M.seq r k) Q := by
  refine wp_seq (wp_mono h fun f hf => ?_)
  cases f with
  | nx s => exact leaf s hf
  | rt t => exact hf
end
end DL
namespace DL
section
variable {S T : Type}
/-- a loop over data that goes through -/
theorem wp_forL {f : S → D → R (Fl T S)} (I : S → Prop) {Q : Fl T S → Prop} : ∀ {l : List D} {s : S}, I s → (∀ x ∈ l, ∀ s, I s → wp (f s x) (qTurn I)) → (∀ s, I s → Q (.nx s)) → wp (forD f l s) Q
  | [], s, h0, _, hk => wp_ok (hk s h0)
  | x :: l, s, h0, h, hk => by
    obtain ⟨a, e, q⟩ := h x (List.mem_cons_self ..) s h0
    rw [forD_cons, e]
    cases a with
    | rt t => exact q.elim
    | nx s' =>
      show wp (forD f l s') Q
      exact wp_forL I q (fun y hy => h y (List.mem_cons_of_mem _ hy)) hk
end
end DL
end
section
set_option Elab.async false
set_option linter.all false
set_option maxRecDepth 100000
set_option maxHeartbeats 4000000
set_option autoImplicit false
/-! Plain laws: repr of small data. -/
namespace DL
open PySem
def shB (d : D) : Bool := match d.shows with
  | some s => PyData.strOk s
  | none => false
theorem sh_repr {d : D} (h : shB d = true) : ∃ s, D.repr d = some (.str s) ∧ D.ne (.str s) (.str s) = some (.bl false) := by
  unfold shB at h
  cases q : d.shows with
  | none =>
    rw [q] at h
    cases h
  | some s =>
    rw [q] at h
    have h : PyData.strOk s = true := h
    refine ⟨s, repr_eq q, ?_⟩
    rw [ne_sim (x := .str s) (y := .str s) h h (Nat.zero_le _) (Nat.zero_le _), sim_refl (.str s) h]
    rfl
theorem strOk_app (a b : Str) : PyData.strOk (a ++ b) = (PyData.strOk a && PyData.strOk b) := by
  show Array.all (a.cps ++ b.cps) _ = _
  rw [Array.all_append]
  rfl
theorem join_small : ∀ ts : List Str, (∀ t ∈ ts, PyData.strOk t = true) → PyData.strOk (Str.join ", " ts) = true ∧ (Str.join ", " ts).length ≤ (ts.map fun t => t.length + 2).sum
  | [], _ => ⟨by decide +kernel, Nat.zero_le _⟩
  | [x], h => ⟨h x (List.mem_singleton_self x), by
    show x.length ≤ x.length + 2 + 0
    omega⟩
  | x :: y :: r, h => by
    obtain ⟨h1, h2⟩ := join_small (y :: r) fun t ht => h t (List.mem_cons_of_mem _ ht)
    have e : Str.join ", " (x :: y :: r) = x ++ ", " ++ Str.join ", " (y :: r) := rfl
    rw [e]
    refine ⟨?_, ?_⟩
    · rw [strOk_app, strOk_app, h x (List.mem_cons_self ..), h1]
      decide +kernel
    · rw [strLen_append, strLen_append, List.map_cons, List.sum_cons]
      have e2 : ((", " : String) : Str).length = 2 := rfl
      rw [e2]
      omega
theorem textFrom_small : ∀ (ts : List Str) (k : Nat) (acc : Str), (∀ t ∈ ts, PyData.strOk t = true) → PyData.strOk acc = true → PyData.strOk (textFrom k acc ts) = true ∧ (textFrom k acc ts).length ≤ acc.length + (ts.map fun t => t.length + 2).sum
  | [], k, acc, _, ha => ⟨ha, Nat.le_refl _⟩
  | t :: r, k, acc, h, ha => by
    have hq : PyData.strOk (if k > 0 then ", " else "" : String) = true ∧ ((if k > 0 then ", " else "" : String) : Str).length ≤ 2 := by
      split
      · exact ⟨by decide +kernel, by decide +kernel⟩
      · exact ⟨by decide +kernel, by decide +kernel⟩
    obtain ⟨h1, h2⟩ := textFrom_small r (k + 1) (acc ++ (if k > 0 then ", " else "" : String) ++ t) (fun u hu => h u (List.mem_cons_of_mem _ hu)) (by
      rw [strOk_app, strOk_app, ha, hq.1, h t (List.mem_cons_self ..)]
      rfl)
    refine ⟨h1, Nat.le_trans h2 ?_⟩
    rw [strLen_append, strLen_append, List.map_cons, List.sum_cons]
    have := hq.2
    omega
mutual
/-- small data: whole numbers below a thousand, texts that can be shown -/
def D.small : D → Bool
  | .non => true
  | .bl _ => true
  | .int i => decide (i.natAbs < 1000)
  | .str x => PyData.strOk x && (PyData.strOk (reprText x) && decide ((reprText x).length ≤ 1000))
  | .tup l => D.smallA l
  | .lst l => D.smallA l
  | .exc _ _ => false
def D.smallA : List D → Bool
  | [] => true
  | d :: l => D.small d && D.smallA l
end
mutual
/-- at most so many signs -/
def D.many : D → Nat
  | .int _ => 4
  | .str _ => 1000
  | .tup l => D.manyA l + 3
  | .lst l => D.manyA l + 2
  | _ => 5
def D.manyA : List D → Nat
  | [] => 0
  | d :: l => D.many d + 2 + D.manyA l
end
theorem int_small : ∀ n : Fin 1000, PyData.strOk (toString (n.1 : Int) : String) = true ∧ ((toString (n.1 : Int) : String) : Str).length ≤ 4 ∧ PyData.strOk (toString (-(n.1 : Int)) : String) = true ∧ ((toString (-(n.1 : Int)) : String) : Str).length ≤ 4 := by decide +kernel
theorem int_sm {i : Int} (h : i.natAbs < 1000) : PyData.strOk (toString i : String) = true ∧ ((toString i : String) : Str).length ≤ 4 := by
  obtain ⟨a, b, c, d⟩ := int_small ⟨i.natAbs, h⟩
  dsimp only at a b c d
  by_cases p : 0 ≤ i
  · have e : ((i.natAbs : Nat) : Int) = i := by omega
    rw [e] at a b
    exact ⟨a, b⟩
  · have e : -((i.natAbs : Nat) : Int) = i := by omega
    rw [e] at c d
    exact ⟨c, d⟩
mutual
theorem small_py : ∀ d : D, d.small = true → ∃ p, d.py = some p ∧ PyData.showable p = true ∧ PyData.hasDict p = false ∧ p.depth = d.dep ∧ PyData.strOk p.shown = true ∧ p.shown.length ≤ d.many
  | .non, _ => ⟨.none, rfl, rfl, rfl, rfl, by decide +kernel, by decide +kernel⟩
  | .bl true, _ => ⟨.bool true, rfl, rfl, rfl, rfl, by decide +kernel, by decide +kernel⟩
  | .bl false, _ => ⟨.bool false, rfl, rfl, rfl, rfl, by decide +kernel, by decide +kernel⟩
  | .int i, h => by
    have h' : i.natAbs < 1000 := of_decide_eq_true h
    obtain ⟨a, b⟩ := int_sm h'
    refine ⟨.int i, rfl, ?_, rfl, rfl, a, b⟩
    have : i.natAbs.log2 < 1920 := by
      by_cases z : i.natAbs = 0
      · rw [z]; decide
      · exact (Nat.log2_lt z).mpr (Nat.lt_of_lt_of_le h' (by decide +kernel))
    exact decide_eq_true this
  | .str x, h => by
    have h' : (PyData.strOk x && (PyData.strOk (reprText x) && decide ((reprText x).length ≤ 1000))) = true := h
    rw [Bool.and_eq_true, Bool.and_eq_true] at h'
    exact ⟨.str x, rfl, rfl, rfl, rfl, h'.2.1, of_decide_eq_true h'.2.2⟩
  | .tup l, h => by
    obtain ⟨ps, e, s1, s2, s3, s4, s5⟩ := small_pyA l h
    obtain ⟨j1, j2⟩ := join_small (PyData.shownAll ps) s4
    refine ⟨.tuple ps, ?_, s1, s2, ?_, ?_, ?_⟩
    · show (match D.pyA l with | some ps => some (PyData.tuple ps) | none => none) = _
      rw [e]
    · show PyData.depthAll ps + 1 = D.depA l + 1
      rw [s3]
    · show PyData.strOk (("(" : Str) ++ Str.join ", " (PyData.shownAll ps) ++ (if (PyData.shownAll ps).length == 1 then ",)" else ")" : String)) = true
      rw [strOk_app, strOk_app, j1]
      split <;> decide +kernel
    · show (("(" : Str) ++ Str.join ", " (PyData.shownAll ps) ++ (if (PyData.shownAll ps).length == 1 then ",)" else ")" : String)).length ≤ D.manyA l + 3
      rw [strLen_append, strLen_append]
      have e1 : ("(" : Str).length = 1 := rfl
      have e2 : ((if (PyData.shownAll ps).length == 1 then ",)" else ")" : String) : Str).length ≤ 2 := by
        split <;> decide +kernel
      omega
  | .lst l, h => by
    obtain ⟨ps, e, s1, s2, s3, s4, s5⟩ := small_pyA l h
    obtain ⟨j1, j2⟩ := textFrom_small (PyData.shownAll ps) 0 "[" s4 (by decide +kernel)
    refine ⟨.list ps, ?_, s1, s2, ?_, ?_, ?_⟩
    · show (match D.pyA l with | some ps => some (PyData.list ps) | none => none) = _
      rw [e]
    · show PyData.depthAll ps + 1 = D.depA l + 1
      rw [s3]
    · show PyData.strOk (textFrom 0 "[" (PyData.shownAll ps) ++ "]") = true
      rw [strOk_app, j1]
      decide +kernel
    · show (textFrom 0 "[" (PyData.shownAll ps) ++ "]").length ≤ D.manyA l + 2
      rw [strLen_append]
      have e1 : (("[" : String) : Str).length = 1 := rfl
      have e2 : (("]" : String) : Str).length = 1 := rfl
      rw [e1] at j2
      rw [e2]
      omega
  | .exc _ _, h => by cases h
theorem small_pyA : ∀ l : List D, D.smallA l = true → ∃ ps, D.pyA l = some ps ∧ PyData.showableAll ps = true ∧ PyData.hasDictAll ps = false ∧ PyData.depthAll ps = D.depA l ∧ (∀ t ∈ PyData.shownAll ps, PyData.strOk t = true) ∧ ((PyData.shownAll ps).map fun t => t.length + 2).sum ≤ D.manyA l
  | [], _ => ⟨[], rfl, rfl, rfl, rfl, fun t ht => (nomatch ht), Nat.le_refl _⟩
  | d :: l, h => by
    have h' : (D.small d && D.smallA l) = true := h
    rw [Bool.and_eq_true] at h'
    obtain ⟨p, a1, a2, a3, a4, a5, a6⟩ := small_py d h'.1
    obtain ⟨ps, e, s1, s2, s3, s4, s5⟩ := small_pyA l h'.2
    refine ⟨p :: ps, ?_, ?_, ?_, ?_, ?_, ?_⟩
    · show (match d.py, D.pyA l with | some x, some xs => some (x :: xs) | _, _ => none) = _
      rw [a1, e]
    · show (PyData.showable p && PyData.showableAll ps) = true
      rw [a2, s1] <;> rfl
    · show (PyData.hasDict p || PyData.hasDictAll ps) = false
      rw [a3, s2] <;> rfl
    · show max p.depth (PyData.depthAll ps) = max d.dep (D.depA l)
      rw [a4, s3]
    · intro t ht
      rcases List.mem_cons.mp ht with rfl | ht
      · exact a5
      · exact s4 t ht
    · show (PyData.shown p).length + 2 + ((PyData.shownAll ps).map fun t => t.length + 2).sum ≤ D.many d + 2 + D.manyA l
      omega
end
theorem sh_small {d : D} (h : d.small = true) (hd : d.dep ≤ 32) (hm : d.many ≤ 10000000) : shB d = true := by
  obtain ⟨p, a1, a2, a3, a4, a5, a6⟩ := small_py d h
  unfold shB D.shows
  rw [a1]
  dsimp only
  rw [if_pos ⟨a2, Nat.le_trans a6 hm, by omega, a3⟩]
  exact a5
end DL
end
section
set_option Elab.async false
set_option linter.all false
set_option maxRecDepth 100000
set_option maxHeartbeats 4000000
set_option autoImplicit false
namespace K99
open PySem DL
open L2 (atI ixN)
/-! ## draws -/
def stD (l c t : Int) : DK := [(.inr "left", .int l), (.inr "cell", .int c), (.inr "turns", .int t)]
theorem get_left (l c t : Int) : dget (stD l c t) (.str "left") = some (.int l) := rfl
theorem get_cell (l c t : Int) : dget (stD l c t) (.str "cell") = some (.int c) := rfl
theorem get_turns (l c t : Int) : dget (stD l c t) (.str "turns") = some (.int t) := rfl
theorem set_left (l c t x : Int) : dset (stD l c t) (.str "left") (.int x) = some (stD x c t) := rfl
theorem set_turns (l c t x : Int) : dset (stD l c t) (.str "turns") (.int x) = some (stD l c x) := rfl
/-- the state, its turns at most b -/
def Dg (b : Nat) (st : DK) : Prop := ∃ l c t : Int, st = stD l c t ∧ 0 ≤ l ∧ 0 ≤ t ∧ t ≤ b
theorem Dg.mono {a b : Nat} {st : DK} (h : Dg a st) (l : a ≤ b) : Dg b st := by
  obtain ⟨x, y, z, h1, h2, h3, h4⟩ := h
  exact ⟨x, y, z, h1, h2, h3, by omega⟩
theorem mulA_int {a b : Int} (h : a.natAbs < 18446744073709551616 ∨ b.natAbs < 18446744073709551616) : D.mulA (.int a) (.int b) = some (.int (a * b)) := by
  show D.mul (.int a) (.int b) = _
  show (if a.natAbs < 18446744073709551616 ∨ b.natAbs < 18446744073709551616 then some (D.int (a * b)) else none) = _
  rw [if_pos h]
theorem mod_int {a b : Int} (h : 0 < b) : D.mod (.int a) (.int b) = some (.int (a % b)) := by
  show (if 0 < b then some (D.int (a % b)) else none) = _
  rw [if_pos h]
theorem fdiv_int {a b : Int} (h : 0 < b) (h2 : b < 1073741824) : D.fdiv (.int a) (.int b) = some (.int (a / b)) := by
  show (if 0 < b ∧ b.toNat < 1073741824 then some (D.int (a / b)) else none) = _
  rw [if_pos ⟨h, by omega⟩]
theorem s_mixed (c t : Int) (h0 : 0 ≤ t) (h1 : t ≤ 1000000) : ∃ r : Int, m__law_mixed (.int c) (.int t) = .ok (.int r) ∧ 0 ≤ r := by
  unfold m__law_mixed B__law_mixed
  have e4 : D.mod (.int t) (.int 4) = some (.int (t % 4)) := mod_int (by decide)
  simp only [bind_ok, List.length_cons, List.length_nil, e4, of_some, lidx_int]
  rw [if_pos (by decide)]
  simp only [bind_ok]
  have key : ∃ m : Int, (atI [D.int 1000000007, D.int 998244353, D.int 2147483629, D.int 1000000009] (t % 4)) = some (.int m) ∧ 0 < m ∧ m ≤ 2147483629 := by
    have h2 : t % 4 = 0 ∨ t % 4 = 1 ∨ t % 4 = 2 ∨ t % 4 = 3 := by omega
    rcases h2 with e | e | e | e <;> rw [e]
    · exact ⟨1000000007, rfl, by decide, by decide⟩
    · exact ⟨998244353, rfl, by decide, by decide⟩
    · exact ⟨2147483629, rfl, by decide, by decide⟩
    · exact ⟨1000000009, rfl, by decide, by decide⟩
  obtain ⟨m, em, m0, m1⟩ := key
  rw [em]
  simp only [of_some, bind_ok]
  rw [mod_int m0]
  simp only [of_some, bind_ok]
  rw [mulA_int (.inl (by decide))]
  simp only [of_some, bind_ok, add_int]
  have b1 : 0 ≤ c % m := Int.emod_nonneg _ (by omega)
  have b2 : c % m < m := Int.emod_lt_of_pos _ m0
  rw [mulA_int (.inl (by omega))]
  simp only [of_some, bind_ok]
  rw [mod_int (by decide)]
  simp only [of_some, bind_ok]
  rw [mulA_int (.inr (by decide))]
  simp only [of_some, bind_ok]
  rw [mod_int (by decide)]
  simp only [of_some, bind_ok]
  exact ⟨_, rfl, Int.emod_nonneg _ (by decide)⟩
theorem s_digit {b : Nat} {st : DK} {n : Int} (h : Dg b st) (hb : b ≤ 900000) (hn : 0 < n) (hn2 : n < 1073741824) : wp (m__law_digit st (.int n)) fun z => ∃ r : Int, z.1 = .int r ∧ 0 ≤ r ∧ r < n ∧ Dg (b + 4) z.2 := by
  obtain ⟨l, c, t, rfl, l0, t0, t1⟩ := h
  unfold m__law_digit B__law_digit
  simp only [bind_ok, get_left, of_some, eq_intint, asB_bl]
  by_cases z : l = 0
  · subst z
    simp only [beq_self_eq_true, if_true]
    rw [show (D.int 4) = D.int ((4 : Nat) : Int) from rfl, range1_nat (by decide)]
    simp only [of_some, bind_ok]
    refine wp_finS (wp_seq (wp_seq (wp_for (fun (k : Nat) => D.int k) (fun i s => ∃ l' t' : Int, s = stD l' c t' ∧ 0 ≤ l' ∧ 0 ≤ t' ∧ t' ≤ t + i) ⟨0, t, rfl, Int.le_refl _, t0, by simp⟩ (fun i hi s ⟨l', t', e, l0', t0', t1'⟩ => ?_) fun s ⟨l', t', e, l0', t0', t1'⟩ => ?_)))
    · subst e
      have hi' : i < 4 := by simpa using hi
      obtain ⟨r, er, r0⟩ := s_mixed c (t' + 1) (by omega) (by omega)
      simp only [bind_ok, get_turns, of_some, add_int, set_turns, get_left, get_cell, List.append_nil, m2, er]
      rw [mulA_int (.inr (by decide))]
      simp only [bind_ok, of_some, add_int, set_left]
      have : 0 ≤ l' * 2147483647 := Int.mul_nonneg l0' (by decide)
      exact wp_ok ⟨_, _, rfl, by omega, by omega, by omega⟩
    · subst e
      refine wp_ok ?_
      show wp _ _
      simp only [bind_ok, get_left, of_some]
      rw [mod_int hn, fdiv_int hn hn2]
      simp only [bind_ok, of_some, set_left, bnd_ok]
      have e4 : (List.range 4).length = 4 := rfl
      rw [e4] at t1'
      exact wp_ok ⟨_, rfl, Int.emod_nonneg _ (by omega), Int.emod_lt_of_pos _ hn, _, _, _, rfl, Int.ediv_nonneg l0' (by omega), t0', by omega⟩
  · have z' : (l == 0) = false := by simpa using z
    simp only [z', Bool.false_eq_true, if_false, seq_nx, bind_ok, get_left, of_some]
    rw [mod_int hn, fdiv_int hn hn2]
    simp only [bind_ok, of_some, set_left, bnd_ok, finS_rt]
    exact wp_ok ⟨_, rfl, Int.emod_nonneg _ (by omega), Int.emod_lt_of_pos _ hn, _, _, _, rfl, Int.ediv_nonneg l0 (by omega), t0, by omega⟩
theorem s_draw (c : Int) {k : Nat} (hk : k ≤ 100) : ∃ st, m__law_draw (.int c) (.int k) = .ok st ∧ Dg 100000 st := by
  unfold m__law_draw B__law_draw
  have e1 : D.pow (.int 10) (.int 18) = some (.int (10 ^ 18)) := rfl
  simp only [bind_ok, e1, of_some, ge_int, asB_bl]
  rw [mulA_int (.inl (by decide))]
  by_cases h : (10 : Int) ^ 18 ≤ c
  · simp only [h, decide_true, if_true, bind_ok, of_some, List.length_cons, List.length_nil]
    exact ⟨stD c c (1000 * k), rfl, _, _, _, rfl, by omega, by omega, by omega⟩
  · simp only [h, decide_false, if_false, bind_ok, of_some, List.length_cons, List.length_nil, Bool.false_eq_true]
    exact ⟨stD 0 c (1000 * k), rfl, _, _, _, rfl, by omega, by omega, by omega⟩
end K99
end
section
set_option Elab.async false
set_option linter.all false
set_option maxRecDepth 100000
set_option maxHeartbeats 4000000
set_option autoImplicit false
namespace K99
open PySem DL
open L2 (atI ixN)
/-! ## errors by hand -/
def valN : List Str := ["BadPoint", "BadNumber", "BadLetters"]
def plcN : List Str := ["BadClaim", "BadBook", "BadAssumptions", "BadWorld", "BadTerm", "BadPaper", "BadText", "BadForm", "BadOrder", "BadMove", "BadDeed", "BadTheory"]
def rowE (v : D) (c : Str) : D := .tup [.exc c v, .exc c v, .str c]
theorem s_valued (v : D) : m__law_valued v = .ok (.lst (valN.map (rowE v))) := by kernel_rfl
theorem s_placed (v : D) : m__law_placed v = .ok (.lst (plcN.map (rowE v))) := by kernel_rfl
theorem k1 (v : D) : m__law_kinds (.exc "BadPoint" v) = .ok (.lst [.str "BadPoint", .str "base", .str "value"]) := by kernel_rfl
theorem s_kinds (v : D) : (∀ c ∈ valN, m__law_kinds (.exc c v) = .ok (.lst [.str c, .str "base", .str "value"])) ∧ (∀ c ∈ plcN, m__law_kinds (.exc c v) = .ok (.lst [.str c, .str "base", .str "value"])) ∧
    m__law_kinds (.exc "NoSuch" v) = .ok (.lst [.str "NoSuch", .str "lookup"]) ∧ m__law_kinds (.exc "TooMany" v) = .ok (.lst [.str "TooMany", .str "overflow"]) := by
  refine ⟨fun c hc => ?_, fun c hc => ?_, by kernel_rfl, by kernel_rfl⟩
  · unfold valN at hc
    simp only [List.mem_cons, List.not_mem_nil, or_false] at hc
    rcases hc with rfl | rfl | rfl <;> kernel_rfl
  · unfold plcN at hc
    simp only [List.mem_cons, List.not_mem_nil, or_false] at hc
    rcases hc with rfl | rfl | rfl | rfl | rfl | rfl | rfl | rfl | rfl | rfl | rfl | rfl <;> kernel_rfl
theorem s_fld (v : D) : (∀ c ∈ valN, (D.exc c v).fldN (t_fld "value") = some v) ∧ (∀ c ∈ plcN, (D.exc c v).fldN (t_fld "place") = some v) ∧ (D.exc "NoSuch" v).fldN (t_fld "value") = some v ∧ (D.exc "TooMany" v).fldN (t_fld "most") = some v := by
  refine ⟨fun c hc => ?_, fun c hc => ?_, by kernel_rfl, by kernel_rfl⟩
  · unfold valN at hc
    simp only [List.mem_cons, List.not_mem_nil, or_false] at hc
    rcases hc with rfl | rfl | rfl <;> kernel_rfl
  · unfold plcN at hc
    simp only [List.mem_cons, List.not_mem_nil, or_false] at hc
    rcases hc with rfl | rfl | rfl | rfl | rfl | rfl | rfl | rfl | rfl | rfl | rfl | rfl <;> kernel_rfl
theorem s_ne : (∀ c ∈ valN, D.ne (.lst [.str c, .str "base", .str "value"]) (.lst [.str c, .str "base", .str "value"]) = some (.bl false)) ∧ (∀ c ∈ plcN, D.ne (.lst [.str c, .str "base", .str "value"]) (.lst [.str c, .str "base", .str "value"]) = some (.bl false)) ∧
    D.ne (.lst [.str "NoSuch", .str "lookup"]) (.lst [.str "NoSuch", .str "lookup"]) = some (.bl false) ∧ D.ne (.lst [.str "TooMany", .str "overflow"]) (.lst [.str "TooMany", .str "overflow"]) = some (.bl false) := by
  refine ⟨fun c hc => ?_, fun c hc => ?_, by kernel_rfl, by kernel_rfl⟩
  · unfold valN at hc
    simp only [List.mem_cons, List.not_mem_nil, or_false] at hc
    rcases hc with rfl | rfl | rfl <;> kernel_rfl
  · unfold plcN at hc
    simp only [List.mem_cons, List.not_mem_nil, or_false] at hc
    rcases hc with rfl | rfl | rfl | rfl | rfl | rfl | rfl | rfl | rfl | rfl | rfl | rfl <;> kernel_rfl
theorem ne_self {d : D} (h : d.good = true) (h2 : d.dep ≤ 64) : D.ne d d = some (.bl false) := by
  rw [ne_sim h h h2 h2, sim_refl d h] <;> rfl
theorem s_right {v : D} (h : v.good = true) (h2 : v.dep ≤ 64) : m__law_right v = .ok (.bl true) := by
  suffices hh : wp (m__law_right v) (fun d => d = .bl true) by
    obtain ⟨a, e, q⟩ := hh
    rw [e, q]
  have a1 := s_valued v
  have a2 := s_placed v
  obtain ⟨b1, b2, b3, b4⟩ := s_kinds v
  obtain ⟨c1, c2, c3, c4⟩ := s_fld v
  obtain ⟨d1, d2, d3, d4⟩ := s_ne
  have nv := ne_self h h2
  have l3 : ∀ a b c : D, (if ([a, b, c] : List D).length ≤ lim then R.ok [a, b, c] else R.un) = .ok [a, b, c] := fun _ _ _ => rfl
  unfold m__law_right B__law_right
  generalize m__law_valued = g1 at a1 ⊢
  generalize m__law_placed = g2 at a2 ⊢
  generalize m__law_kinds = g3 at b1 b2 b3 b4 ⊢
  refine wp_fin ?_
  simp only [bind_ok, List.append_nil, m1_c, a1, a2, items_lst, of_some, l3]
  refine wp_seqP (fun _ => True) ?_ fun _ _ => ?_
  · refine wp_for (rowE v) (fun _ _ => True) trivial (fun i hi _ _ => ?_) fun _ _ => trivial
    have hm : valN[i] ∈ valN := List.getElem_mem hi
    generalize valN[i] = c at hm
    simp only [rowE, three_tup, b1 c hm, c1 c hm, d1 c hm, nv, l3, bind_ok, of_some, asB_bl, Bool.false_eq_true, if_false, seq_nx]
    exact wp_ok trivial
  · refine wp_seqP (fun _ => True) ?_ fun _ _ => ?_
    · refine wp_for (rowE v) (fun _ _ => True) trivial (fun i hi _ _ => ?_) fun _ _ => trivial
      have hm : plcN[i] ∈ plcN := List.getElem_mem hi
      generalize plcN[i] = c at hm
      simp only [rowE, three_tup, b2 c hm, c2 c hm, d2 c hm, nv, l3, bind_ok, of_some, asB_bl, Bool.false_eq_true, if_false, seq_nx]
      exact wp_ok trivial
    · simp only [bind_ok, items_tup, of_some]
      simp only [forD_cons, forD_nil, b3, b4, c3, c4, d3, d4, nv, bind_ok, of_some, asB_bl, Bool.false_eq_true, if_false, seq_nx]
      exact wp_ok rfl
theorem powB_ok {i j : Int} (h : 0 ≤ j) (h2 : (Builtin.Int.intBits i : Int) * j ≤ 2 ^ 27) : D.powB (.int i) (.int j) = some (.int (i ^ j.toNat)) := by
  show (if 0 ≤ j ∧ (Builtin.Int.intBits i : Int) * j ≤ 2 ^ 27 then some (D.int (i ^ j.toNat)) else none) = _
  rw [if_pos ⟨h, h2⟩]
theorem pow1 : D.powB (.int 10) (.int 30) = some (.int (10 ^ 30)) := powB_ok (by decide) (by decide +kernel)
theorem pow2 : D.powB (.int 10) (.int 50) = some (.int (10 ^ 50)) := powB_ok (by decide) (by decide +kernel)
theorem pow3 : ∃ i, D.powB (.int (10 ^ 50)) (.int 50) = some (.int i) ∧ ∃ j, D.powB (.int i) (.int 2) = some (.int j) := ⟨_, powB_ok (by decide) (by decide +kernel), _, powB_ok (by decide) (by decide +kernel)⟩
theorem ab_good : ∀ k : Fin 50, ∃ x, D.mulX (.str "ab") (.int (k.1 : Int)) = some (.str x) ∧ (D.str x).good = true := fun k => by
  refine ⟨Txt.mul "ab" (k.1 : Int), ?_, ?_⟩
  · show (if ("ab" : Str).length ≤ 1000 ∧ ((k.1 : Nat) : Int).natAbs ≤ 1000 then some (D.str (Txt.mul "ab" (k.1 : Int))) else none) = _
    rw [if_pos ⟨by decide +kernel, by have := k.2; omega⟩]
  · revert k
    decide +kernel
end K99
end
section
set_option Elab.async false
set_option linter.all false
set_option maxRecDepth 100000
set_option maxHeartbeats 4000000
set_option autoImplicit false
namespace K99
open PySem DL
open L2 (atI ixN)
theorem enumL_zip : ∀ (l : List Int) (k : Nat), enumL k (l.map D.int) = (l.zipIdx k).map fun q => D.tup [.int (q.2 : Nat), .int q.1]
  | [], _ => rfl
  | x :: l, k => by
    rw [List.map_cons, List.zipIdx_cons, List.map_cons]
    unfold enumL
    rw [enumL_zip l (k + 1)]
theorem nine (n : D) : D.mulA (.tup [n]) (.int 9) = some (.tup [n, n, n, n, n, n, n, n, n]) := rfl
theorem pick7 {a b c d e f g : D} {r : Int} (h0 : 0 ≤ r) (h1 : r < 7) {P : D → Prop} (ha : P a) (hb : P b) (hc : P c) (hd : P d) (he : P e) (hf : P f) (hg : P g) : ∃ x, lidx [a, b, c, d, e, f, g] (.int r) = some x ∧ P x := by
  have h7 : r = 0 ∨ r = 1 ∨ r = 2 ∨ r = 3 ∨ r = 4 ∨ r = 5 ∨ r = 6 := by omega
  rcases h7 with rfl | rfl | rfl | rfl | rfl | rfl | rfl
  · exact ⟨_, rfl, ha⟩
  · exact ⟨_, rfl, hb⟩
  · exact ⟨_, rfl, hc⟩
  · exact ⟨_, rfl, hd⟩
  · exact ⟨_, rfl, he⟩
  · exact ⟨_, rfl, hf⟩
  · exact ⟨_, rfl, hg⟩
theorem LAW (ns : List Int) : m_law (ns.map D.int) = .ok (.bl true) := by
  suffices h : wp (m_law (ns.map D.int)) (fun d => d = .bl true) by
    obtain ⟨a, e, q⟩ := h
    rw [e, q]
  unfold m_law B_law
  refine wp_fin ?_
  refine wp_seq ?_
  have e1 : cutD (ns.map D.int) none (some 4) = (cutD ns none (some 4)).map D.int := by
    unfold cutD
    simp
  have l1 : (cutD ns none (some 4)).length ≤ 4 := by
    unfold cutD HT.sIx
    simp
    omega
  have e2 : lsum (ns.map D.int) = some (.int ns.sum) := by
    have := lsum_map (fun x : Int => x) ns
    simpa using this
  obtain ⟨ys, ey, ly⟩ : ∃ ys : List Int, lcat ((cutD ns none (some 4)).map D.int) [.int ns.sum] = some (ys.map D.int) ∧ ys.length ≤ 5 := by
    refine ⟨cutD ns none (some 4) ++ [ns.sum], ?_, by simp; omega⟩
    unfold lcat
    rw [if_pos (by simp; show _ ≤ 10000000; omega)]
    simp
  simp only [bind_ok, asI_int, Option.map_some, of_some, e1, e2, ey, enumL_zip]
  refine wp_for (fun q : Int × Nat => D.tup [.int (q.2 : Nat), .int q.1]) (fun _ _ => True) trivial (fun i hi _ _ => ?_) fun _ _ => ?_
  case refine_2 =>
    show wp _ _
    refine wp_eq (a := Fl.rt (D.bl true)) ?_ ?_
    · kernel_rfl
    · exact (rfl : D.bl true = D.bl true)
  have F1 := @s_draw
  have F2 := @s_digit
  have F3 := @s_right
  obtain ⟨B1, p3, B2, p4⟩ := pow3
  generalize m__law_draw = g1 at F1 ⊢
  generalize m__law_digit = g2 at F2 ⊢
  generalize m__law_right = g3 at F3 ⊢
  have hi : i < ys.length := by simpa using hi
  have ei : ys.zipIdx[i] = (ys[i], i) := by simp
  simp only [ei, two_tup, bind_ok, List.append_nil, mW2_c]
  obtain ⟨st, es, D0⟩ := F1 ys[i] (k := i) (by omega)
  rw [es]
  simp only [bind_ok, bnd_ok, mS1_c]
  repeat with_reducible refine wp_bnd ?_
  refine wp_mono (F2 D0 (by decide) (by decide) (by decide)) fun z hz => ?_
  obtain ⟨z1, s1⟩ := z
  obtain ⟨r, e, r0, r1, D1⟩ := hz
  dsimp only at e D1 ⊢
  subst e
  have m50 : D.mod (.int r) (.int 50) = some (.int (r % 50)) := mod_int (by decide)
  have b50 : 0 ≤ r % 50 ∧ r % 50 < 50 := by omega
  obtain ⟨x, ex, gx⟩ := ab_good ⟨(r % 50).toNat, by omega⟩
  rw [show (((⟨(r % 50).toNat, by omega⟩ : Fin 50).1 : Nat) : Int) = r % 50 from by show (((r % 50).toNat : Nat) : Int) = _; omega] at ex
  simp only [sub_int, m50, ex, pow1, pow2, p3, p4, nine, of_some, bind_ok, List.length_cons, List.length_nil]
  rw [if_pos (by decide)]
  simp only [bind_ok]
  repeat with_reducible refine wp_bnd ?_
  refine wp_mono (F2 D1 (by decide) (by decide) (by decide)) fun z hz => ?_
  obtain ⟨z1, s2⟩ := z
  obtain ⟨q, e, q0, q1, D2⟩ := hz
  dsimp only at e D2 ⊢
  subst e
  obtain ⟨v, ev, gv, dv⟩ := pick7 (P := fun d => d.good = true ∧ d.dep ≤ 64) (a := .int r) (b := .int (0 - r)) (c := .str x) (d := .tup [.str "above", .tup [.int 0, .int r]]) (e := .non) (f := .tup [.int (10 ^ 30), .tup []]) (g := .tup [.int r, .int r, .int r, .int r, .int r, .int r, .int r, .int r, .int r]) q0 q1
    ⟨rfl, Nat.zero_le _⟩ ⟨rfl, Nat.zero_le _⟩ ⟨gx, Nat.zero_le _⟩ ⟨by kernel_rfl, (by decide : 2 ≤ 64)⟩ ⟨rfl, Nat.zero_le _⟩ ⟨rfl, (by decide : 2 ≤ 64)⟩ ⟨rfl, (by decide : 1 ≤ 64)⟩
  have h1 := F3 gv dv
  have h2 := F3 (v := .int B2) rfl (Nat.zero_le _)
  simp only [ev, of_some, bind_ok]
  refine wp_ok (wp_ok ?_)
  simp only [m1_c, h1, bind_ok, asB_bl, of_some]
  refine wp_ok ?_
  simp only [asB_bl, of_some, bind_ok]
  refine wp_ok (wp_ok ?_)
  simp only [h2, asB_bl, of_some, bind_ok, Bool.not_true, Bool.false_eq_true, if_false]
  refine wp_ok ?_
  simp only [Bool.false_eq_true, if_false]
  exact wp_ok trivial
end K99
end
theorem PySem.Challenge.cw_prooforbar_k99_errors_by_hand_holds : PySem.Challenge.rw_prooforbar_k99_errors_by_hand.Holds := by
  exact K99.whole fun ns _ _ => K99.LAW ns
