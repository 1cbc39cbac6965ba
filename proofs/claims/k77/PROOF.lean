import PyProof.Rows.All
import Wide.All
import OpenK.AllK
import Wide.FinOn
import HandS.ForMost
import HandS.Wide
import HandS.EndBits
import KE.SortData
import KE.DataMinMax
import KE.DataCmp
import HandS.TupAny
import HandS.TupMul
import HandS.Deep
import HandS.Style
import HandS.IsInst
import HandS.SetFor
import KE.SortUse
import PyProof.ListRange
import HandS.Text
import HandS.FStr
import HandS.More
import PyProof.EqKinds
import PyProof.NeData
import PyProof.P3In
import KE.KEqDict
import HandS.Exc
import HandS.ExcOwn
import HandS.WordsExc
import HandS.CallSlots
import HandS.StrSplit
import HandS.RaiseMore
import PyProof.ReprRoads
import PyProof.ReprLen
import PyProof.StrLawsRepr
import HandS.SortKw
import KE.DataFind
import HandS.ExcInit
import HandS.ExcField
import HandS.ExcIs
import HandS.TryOnly
import HandS.Zip
import KE.GoesNew
import KE.GoesMore
import KE.GoesEnum
import KE.GoesZip
import HandS.Star
import HandS.MakeKw
import HandS.Conv
import HandS.Words
import KE.KExcSuper
import KE.KSuper
import KE.RegKSuper
import KE.RegKIsAll
import Flt.RightSqrt
import PySem.Challenge.RW_nonearer_k77_whole_everything_near
set_option linter.all false
set_option Elab.async false
set_option maxRecDepth 100000
/-! M1: values as data (D), a store of cells, how they stand in the abstract heap. -/
namespace M
open PySem L2

inductive D where
  | non
  | bl (b : Bool)
  | int (i : Int)
  | str (x : Str)
  | ty (n : String)
  | ref (n : Nat)
  | tup (xs : List D)
  | lst (xs : List D)
  | rol (xs : List D)
  | ins (c : Str) (ns : List Str) (xs : List D)
  | dct (ks : List Key) (vs : List D)
  /-- an exception that was caught: where it and its dict stand -/
  | exc (a dx : Addr) (c : Str) (ns : List Str) (xs : List D)
  deriving Inhabited

/-- what stands in a cell of the store: things that may change -/
inductive Cell where
  | lst (xs : List D)
  | ins (c : Str) (ns : List Str) (xs : List D)
  /-- a dict; whether it is being walked -/
  | dct (lk : Bool) (ks : List Key) (vs : List D)
  deriving Inhabited

abbrev Store := List Cell
abbrev Env' := List (Option D)

/-- K, mg fixed: the written part and the module's names -/
structure Bk where
  K : PySem.W.Frag
  mg : Str → Option Value

/-- a written list or tuple -/
def WrL (K : PySem.W.Frag) (a : Addr) (vs : List V) : Prop := ∀ H : Hp, SqL K H a vs
def WrT (K : PySem.W.Frag) (a : Addr) (vs : List V) : Prop := ∀ H : Hp, SqT K H a vs

def clsAt (B : Bk) (c : Str) (C : Addr) : Prop := B.mg c = some (.ref C)

/-- where the cells stand; lists that are being made -/
structure Rg where
  c : List Addr
  z : List Addr
instance : Membership Addr Rg := ⟨fun r a => a ∈ r.c ∨ a ∈ r.z⟩
theorem Rg.not {r : Rg} {a : Addr} : a ∉ r ↔ a ∉ r.c ∧ a ∉ r.z := by
  show ¬ (a ∈ r.c ∨ a ∈ r.z) ↔ _
  simp only [not_or]
def Rg.add (r : Rg) (p : Addr) : Rg := ⟨r.c ++ [p], r.z⟩
def Rg.mk' (r : Rg) (p : Addr) : Rg := ⟨r.c, p :: r.z⟩
def Rg.un (r : Rg) (z : List Addr) : Rg := ⟨r.c, z⟩

mutual
inductive RV (B : Bk) (r : Rg) (H : Hp) : D → V → Prop
  | non : RV B r H .non .non
  | bl (b : Bool) : RV B r H (.bl b) (.bl b)
  | int (i : Int) : RV B r H (.int i) (.int i)
  | str (x : Str) : RV B r H (.str x) (.str x)
  | ty (n : String) : RV B r H (.ty n) (.ty n)
  | ref {n : Nat} {a : Addr} : r.c[n]? = some a → RV B r H (.ref n) (.ref a)
  | tup {a : Addr} {vs : List V} {ds : List D} : a ∉ r → Rd H a (.tup vs) → RVs B r H ds vs → RV B r H (.tup ds) (.ref a)
  | tupK {a : Addr} {vs : List V} {ds : List D} : WrT B.K a vs → RVs B r H ds vs → RV B r H (.tup ds) (.ref a)
  | lst {a : Addr} {vs : List V} {ds : List D} : a ∉ r → H a = some (.lst vs) → RVs B r H ds vs → RV B r H (.lst ds) (.ref a)
  | rol {a : Addr} {vs : List V} {ds : List D} : a ∉ r → Rd H a (.lst vs) → RVs B r H ds vs → RV B r H (.rol ds) (.ref a)
  | rolK {a : Addr} {vs : List V} {ds : List D} : WrL B.K a vs → RVs B r H ds vs → RV B r H (.rol ds) (.ref a)
  | ins {c : Str} {ns : List Str} {a C dx : Addr} {vs : List V} {ds : List D} : clsAt B c C → a ∉ r → ns.length = ds.length → H a = some (.ins C dx (ns.zip vs)) → RVs B r H ds vs → RV B r H (.ins c ns ds) (.ref a)
  | dct {ks : List Key} {a : Addr} {vs : List V} {ds : List D} : a ∉ r → ks.length = ds.length → Rd H a (.dK (ks.zip vs)) → RVs B r H ds vs → RV B r H (.dct ks ds) (.ref a)
  | exc {c : Str} {ns : List Str} {a C dx : Addr} {vs : List V} {ds : List D} : clsAt B c C → dx ∉ r → ns.length = ds.length → H dx = some (.xd (ns.zip vs)) → RVs B r H ds vs → RV B r H (.exc a dx c ns ds) (.ref a)
inductive RVs (B : Bk) (r : Rg) (H : Hp) : List D → List V → Prop
  | nil : RVs B r H [] []
  | cons {d : D} {v : V} {ds : List D} {vs : List V} : RV B r H d v → RVs B r H ds vs → RVs B r H (d :: ds) (v :: vs)
end

/-- what a step may do: more cells, all else that was tracked stays -/
structure Ex (r : Rg) (H : Hp) (r' : Rg) (H' : Hp) : Prop where
  pre : ∃ nw, r'.c = r.c ++ nw ∧ ∀ a ∈ nw, H a = none
  zz : r'.z = r.z
  keep : ∀ a o, H a = some o → a ∉ r.c → H' a = some o
  there : ∀ a o, H a = some o → ∃ o', H' a = some o'

/-- a cell stands at an address -/
inductive RC (B : Bk) (r : Rg) (H : Hp) : Cell → Addr → Prop
  | lst {a : Addr} {vs : List V} {ds : List D} : H a = some (.lst vs) → RVs B r H ds vs → RC B r H (.lst ds) a
  | ins {c : Str} {ns : List Str} {a C dx : Addr} {vs : List V} {ds : List D} : clsAt B c C → ns.length = ds.length → H a = some (.ins C dx (ns.zip vs)) → RVs B r H ds vs → RC B r H (.ins c ns ds) a
  | dct {ks : List Key} {a : Addr} {vs : List V} {ds : List D} : ks.length = ds.length → H a = some (.dK (ks.zip vs)) → RVs B r H ds vs → RC B r H (.dct false ks ds) a
  | dctL {ks : List Key} {a : Addr} {od : Obj} {vs : List V} {ds : List D} : ks.length = ds.length → H a = some (.frz od (.dK (ks.zip vs))) → RVs B r H ds vs → RC B r H (.dct true ks ds) a

structure RS (B : Bk) (r : Rg) (S : Store) (H : Hp) : Prop where
  len : r.c.length = S.length
  nd : r.c.Nodup
  zt : ∀ a ∈ r.z, ∃ o, H a = some o
  zc : ∀ a ∈ r.c, a ∉ r.z
  at_ : ∀ (n : Nat) (c : Cell) (a : Addr), S[n]? = some c → r.c[n]? = some a → RC B r H c a

/-- .. and from where on a body, or a try's body, was walked -/
structure Bk1 extends Bk where
  r0 : Rg
  H0 : Hp
instance : CoeOut Bk1 Bk := ⟨Bk1.toBk⟩
/-- what has been done since then -/
structure Lnk (r : Rg) (H : Hp) (r' : Rg) (H' : Hp) : Prop where
  pre : ∃ nw, r'.c = r.c ++ nw ∧ ∀ a ∈ nw, H a = none
  zs : ∀ a ∈ r.z, a ∈ r'.z
  keep : ∀ a o, H a = some o → a ∉ r.c → H' a = some o
  there : ∀ a o, H a = some o → ∃ o', H' a = some o'
/-- the slots -/
structure Ro (B : Bk1) (r : Rg) (H : Hp) (e : Env') (σ : L2.St) : Prop where
  ln : Lnk B.r0 B.H0 r H
  len : e.length = σ.length
  at_ : ∀ (i : Nat) (d : D), e[i]? = some (some d) → ∃ v, σ[i]? = some (some v) ∧ RV B r H d v

section
variable {B : Bk} {r r' r2 : Rg} {H H' H2 : Hp} {S S' : Store} {e : Env'} {σ : L2.St}
theorem Ex.refl : Ex r H r H := ⟨⟨[], by simp, fun a h => by cases h⟩, rfl, fun _ _ h _ => h, fun _ o h => ⟨o, h⟩⟩
theorem Ex.outC (x : Ex r H r' H') {a : Addr} {o : HO} (h : H a = some o) (n : a ∉ r.c) : a ∉ r'.c := by
  obtain ⟨⟨nw, e, hn⟩, _, _, _⟩ := x
  intro hm
  rw [e] at hm
  rcases List.mem_append.mp hm with q | q
  · exact n q
  · rw [hn a q] at h; cases h
theorem Ex.out (x : Ex r H r' H') {a : Addr} {o : HO} (h : H a = some o) (n : a ∉ r) : a ∉ r' := by
  rw [Rg.not] at n ⊢
  exact ⟨x.outC h n.1, by rw [x.zz]; exact n.2⟩
theorem Ex.trans (x : Ex r H r' H') (y : Ex r' H' r2 H2) : Ex r H r2 H2 := by
  refine ⟨?_, y.zz.trans x.zz, fun a o h n => y.keep a o (x.keep a o h n) (x.outC h n), fun a o h => ?_⟩
  · obtain ⟨⟨nw, e, hn⟩, _, _, xt⟩ := x
    obtain ⟨⟨nw2, e2, hn2⟩, _, _, _⟩ := y
    refine ⟨nw ++ nw2, by rw [e2, e, List.append_assoc], fun a ha => ?_⟩
    rcases List.mem_append.mp ha with q | q
    · exact hn a q
    · cases h : H a with
      | none => rfl
      | some o =>
        obtain ⟨o', h'⟩ := xt a o h
        rw [hn2 a q] at h'; cases h'
  · obtain ⟨o', h'⟩ := x.there a o h
    exact y.there a o' h'
theorem Ex.get (x : Ex r H r' H') {n : Nat} {a : Addr} (h : r.c[n]? = some a) : r'.c[n]? = some a := by
  obtain ⟨⟨nw, e, _⟩, _, _, _⟩ := x
  rw [e, List.getElem?_append_left (List.getElem?_eq_some_iff.mp h).1]; exact h
theorem Ex.rd (x : Ex r H r' H') {a : Addr} {u : HO} (n : a ∉ r) (h : Rd H a u) : Rd H' a u ∧ a ∉ r' := by
  have nc := (Rg.not.mp n).1
  rcases h with h | ⟨o, h⟩
  · exact ⟨.inl (x.keep a _ h nc), x.out h n⟩
  · exact ⟨.inr ⟨o, x.keep a _ h nc⟩, x.out h n⟩
/-- how data may be carried from one heap to another: what it stands on stays -/
structure Car (r : Rg) (H : Hp) (r' : Rg) (H' : Hp) : Prop where
  get : ∀ (n : Nat) (a : Addr), r.c[n]? = some a → r'.c[n]? = some a
  keep : ∀ a o, H a = some o → a ∉ r → H' a = some o ∧ a ∉ r'
theorem Ex.car (x : Ex r H r' H') : Car r H r' H' := ⟨fun _ _ h => x.get h, fun a o h n => ⟨x.keep a o h (Rg.not.mp n).1, x.out h n⟩⟩
theorem Car.rd (x : Car r H r' H') {a : Addr} {u : HO} (n : a ∉ r) (h : Rd H a u) : Rd H' a u ∧ a ∉ r' := by
  rcases h with h | ⟨o, h⟩
  · exact ⟨.inl (x.keep a _ h n).1, (x.keep a _ h n).2⟩
  · exact ⟨.inr ⟨o, (x.keep a _ h n).1⟩, (x.keep a _ h n).2⟩
mutual
theorem RV.car (x : Car r H r' H') : ∀ {d : D} {v : V}, RV B r H d v → RV B r' H' d v
  | _, _, .non => .non
  | _, _, .bl b => .bl b
  | _, _, .int i => .int i
  | _, _, .str y => .str y
  | _, _, .ty n => .ty n
  | _, _, .ref h => .ref (x.get _ _ h)
  | _, _, .tup n h hs => .tup (x.rd n h).2 (x.rd n h).1 (RVs.car x hs)
  | _, _, .tupK h hs => .tupK h (RVs.car x hs)
  | _, _, .lst n h hs => .lst (x.keep _ _ h n).2 (x.keep _ _ h n).1 (RVs.car x hs)
  | _, _, .rol n h hs => .rol (x.rd n h).2 (x.rd n h).1 (RVs.car x hs)
  | _, _, .rolK h hs => .rolK h (RVs.car x hs)
  | _, _, .ins c n l h hs => .ins c (x.keep _ _ h n).2 l (x.keep _ _ h n).1 (RVs.car x hs)
  | _, _, .exc c n l h hs => .exc c (x.keep _ _ h n).2 l (x.keep _ _ h n).1 (RVs.car x hs)
  | _, _, .dct n l h hs => .dct (x.rd n h).2 l (x.rd n h).1 (RVs.car x hs)
theorem RVs.car (x : Car r H r' H') : ∀ {ds : List D} {vs : List V}, RVs B r H ds vs → RVs B r' H' ds vs
  | _, _, .nil => .nil
  | _, _, .cons h hs => .cons (RV.car x h) (RVs.car x hs)
end
theorem RV.mono (x : Ex r H r' H') {d : D} {v : V} (h : RV B r H d v) : RV B r' H' d v := h.car x.car
theorem RVs.mono (x : Ex r H r' H') {ds : List D} {vs : List V} (h : RVs B r H ds vs) : RVs B r' H' ds vs := h.car x.car
theorem Lnk.refl : Lnk r H r H := ⟨⟨[], by simp, fun a h => by cases h⟩, fun _ h => h, fun _ _ h _ => h, fun _ o h => ⟨o, h⟩⟩
theorem Lnk.outC (x : Lnk r H r' H') {a : Addr} {o : HO} (h : H a = some o) (n : a ∉ r.c) : a ∉ r'.c := by
  obtain ⟨⟨nw, e, hn⟩, _, _, _⟩ := x
  intro hm
  rw [e] at hm
  rcases List.mem_append.mp hm with q | q
  · exact n q
  · rw [hn a q] at h; cases h
theorem Lnk.go (x : Lnk r H r' H') (hp : ∃ nw, r2.c = r'.c ++ nw ∧ ∀ a ∈ nw, H' a = none) (hz : ∀ a ∈ r'.z, a ∈ r2.z) (hk : ∀ a o, H' a = some o → a ∉ r'.c → H2 a = some o) (ht : ∀ a o, H' a = some o → ∃ o', H2 a = some o') : Lnk r H r2 H2 := by
  refine ⟨?_, fun a ha => hz a (x.zs a ha), fun a o h n => hk a o (x.keep a o h n) (x.outC h n), fun a o h => ?_⟩
  · obtain ⟨⟨nw, e, hn⟩, _, _, xt⟩ := x
    obtain ⟨nw2, e2, hn2⟩ := hp
    refine ⟨nw ++ nw2, by rw [e2, e, List.append_assoc], fun a ha => ?_⟩
    rcases List.mem_append.mp ha with q | q
    · exact hn a q
    · cases h : H a with
      | none => rfl
      | some o =>
        obtain ⟨o', h'⟩ := xt a o h
        rw [hn2 a q] at h'; cases h'
  · obtain ⟨o', h'⟩ := x.there a o h
    exact ht a o' h'
theorem Lnk.ex (x : Lnk r H r' H') (y : Ex r' H' r2 H2) : Lnk r H r2 H2 := x.go y.pre (fun a ha => by rw [y.zz]; exact ha) y.keep y.there
/-- seen with the first lists that are being made -/
theorem Lnk.out (x : Lnk r H r' H') : Ex r H (r'.un r.z) H' := ⟨x.pre, rfl, x.keep, x.there⟩
theorem Ro.go {B : Bk1} (x : Car r H r' H') (l : Lnk B.r0 B.H0 r' H') (o : Ro B r H e σ) : Ro B r' H' e σ :=
  ⟨l, o.len, fun i d h => let ⟨v, a, b⟩ := o.at_ i d h; ⟨v, a, b.car x⟩⟩
theorem Ro.mono {B : Bk1} (x : Ex r H r' H') (o : Ro B r H e σ) : Ro B r' H' e σ := o.go x.car (o.ln.ex x)
theorem RVs.length : ∀ {ds : List D} {vs : List V}, RVs B r H ds vs → ds.length = vs.length
  | _, _, .nil => rfl
  | _, _, .cons _ hs => by simp [RVs.length hs]
theorem RVs.get : ∀ {ds : List D} {vs : List V} {i : Nat} {d : D}, RVs B r H ds vs → ds[i]? = some d → ∃ v, vs[i]? = some v ∧ RV B r H d v
  | _, _, _, _, .nil, h => by simp at h
  | _, _, 0, _, .cons h _, q => by simp at q; subst q; exact ⟨_, rfl, h⟩
  | _, _, i + 1, _, .cons _ hs, q => RVs.get hs (i := i) (by simpa using q)
theorem RVs.getV : ∀ {ds : List D} {vs : List V} {i : Nat} {v : V}, RVs B r H ds vs → vs[i]? = some v → ∃ d, ds[i]? = some d ∧ RV B r H d v
  | _, _, _, _, .nil, h => by simp at h
  | _, _, 0, _, .cons h _, q => by simp at q; subst q; exact ⟨_, rfl, h⟩
  | _, _, i + 1, _, .cons _ hs, q => RVs.getV hs (i := i) (by simpa using q)
theorem RVs.append : ∀ {ds es : List D} {vs us : List V}, RVs B r H ds vs → RVs B r H es us → RVs B r H (ds ++ es) (vs ++ us)
  | _, _, _, _, .nil, q => q
  | _, _, _, _, .cons h hs, q => .cons h (RVs.append hs q)
theorem RVs.set : ∀ {ds : List D} {vs : List V} {i : Nat} {d : D} {v : V}, RVs B r H ds vs → RV B r H d v → RVs B r H (ds.set i d) (vs.set i v)
  | _, _, _, _, _, .nil, _ => .nil
  | _, _, 0, _, _, .cons _ hs, q => .cons q hs
  | _, _, _ + 1, _, _, .cons h hs, q => .cons h (RVs.set hs q)
theorem RVs.take : ∀ {ds : List D} {vs : List V} (n : Nat), RVs B r H ds vs → RVs B r H (ds.take n) (vs.take n)
  | _, _, 0, _ => .nil
  | _, _, _ + 1, .nil => .nil
  | _, _, n + 1, .cons h hs => .cons h (RVs.take n hs)
theorem RVs.drop : ∀ {ds : List D} {vs : List V} (n : Nat), RVs B r H ds vs → RVs B r H (ds.drop n) (vs.drop n)
  | _, _, 0, h => h
  | _, _, _ + 1, .nil => .nil
  | _, _, n + 1, .cons _ hs => RVs.drop n hs
theorem RVs.rev {ds : List D} {vs : List V} (h : RVs B r H ds vs) : RVs B r H ds.reverse vs.reverse := by
  have go : ∀ {ds : List D} {vs : List V}, RVs B r H ds vs → ∀ {es us}, RVs B r H es us → RVs B r H (ds.reverseAux es) (vs.reverseAux us) := by
    intro ds
    induction ds with
    | nil => intro vs h es us q; cases h; exact q
    | cons d ds ih =>
      intro vs h es us q
      cases h with
      | cons h hs => exact ih hs (.cons h q)
  exact go h .nil
theorem Ro.set {B : Bk1} {i : Nat} {d : D} {v : V} (o : Ro B r H e σ) (h : RV B r H d v) : Ro B r H (e.set i (some d)) (σ.set i (some v)) := by
  refine ⟨o.ln, by simp [o.len], fun j d' q => ?_⟩
  rw [List.getElem?_set] at q
  split at q
  · rename_i hij
    subst hij
    split at q
    · simp at q
      subst q
      rename_i hlt
      exact ⟨v, by rw [List.getElem?_set_self (by rw [← o.len]; exact hlt)], h⟩
    · cases q
  · rename_i hij
    obtain ⟨w, a, b⟩ := o.at_ j d' q
    exact ⟨w, by rw [List.getElem?_set_ne hij]; exact a, b⟩
theorem Ro.del {B : Bk1} {i : Nat} (o : Ro B r H e σ) : Ro B r H (e.set i none) (σ.set i none) := by
  refine ⟨o.ln, by simp [o.len], fun j d' q => ?_⟩
  rw [List.getElem?_set] at q
  split at q
  · split at q <;> cases q
  · rename_i hij
    obtain ⟨w, a, b⟩ := o.at_ j d' q
    exact ⟨w, by rw [List.getElem?_set_ne hij]; exact a, b⟩
/-- a cell's address is tracked, so a free one is no cell -/
theorem RC.some {c : Cell} {a : Addr} (h : RC B r H c a) : ∃ o, H a = some o := by
  cases h with
  | lst h _ => exact ⟨_, h⟩
  | ins _ _ h _ => exact ⟨_, h⟩
  | dct _ h _ => exact ⟨_, h⟩
  | dctL _ h _ => exact ⟨_, h⟩
theorem RS.cell (s : RS B r S H) {a : Addr} (h : a ∈ r.c) : ∃ (n : Nat) (c : Cell), r.c[n]? = some a ∧ S[n]? = some c ∧ RC B r H c a := by
  obtain ⟨n, hn, e⟩ := List.mem_iff_getElem.mp h
  have h1 : r.c[n]? = some a := by rw [List.getElem?_eq_getElem hn, e]
  have h2 : n < S.length := by rw [← s.len]; exact hn
  exact ⟨n, S[n], h1, List.getElem?_eq_getElem h2, s.at_ n _ a (List.getElem?_eq_getElem h2) h1⟩
theorem RS.freeC (s : RS B r S H) {p : Addr} (h : H p = none) : p ∉ r.c := fun m => by
  obtain ⟨n, c, _, _, q⟩ := s.cell m
  obtain ⟨o, q⟩ := q.some
  rw [h] at q; cases q
theorem RS.free (s : RS B r S H) {p : Addr} (h : H p = none) : p ∉ r := by
  rw [Rg.not]
  refine ⟨s.freeC h, fun m => ?_⟩
  obtain ⟨o, q⟩ := s.zt p m
  rw [h] at q; cases q
/-- something new, that is no cell -/
theorem Ex.new {p : Addr} {o : HO} (h : H p = none) : Ex r H r (upd H p o) :=
  ⟨⟨[], by simp, fun _ q => by cases q⟩, rfl, fun a u q _ => by rw [upd_ne (ne_of_none q h)]; exact q, fun a u q => ⟨u, by rw [upd_ne (ne_of_none q h)]; exact q⟩⟩
theorem RC.car (x : Car r H r' H') {c : Cell} {a : Addr} (k : H' a = H a) (h : RC B r H c a) : RC B r' H' c a := by
  cases h with
  | lst h hs => exact .lst (k.trans h) (hs.car x)
  | ins c l h hs => exact .ins c l (k.trans h) (hs.car x)
  | dct l h hs => exact .dct l (k.trans h) (hs.car x)
  | dctL l h hs => exact .dctL l (k.trans h) (hs.car x)
theorem RS.new {p : Addr} {o : HO} (s : RS B r S H) (h : H p = none) : RS B r S (upd H p o) :=
  ⟨s.len, s.nd, fun a ha => (Ex.new (r := r) (o := o) h).there a _ (s.zt a ha).choose_spec, s.zc, fun n c a h1 h2 => by
    have q := s.at_ n c a h1 h2
    obtain ⟨u, z⟩ := q.some
    exact q.car (Ex.new h).car (upd_ne (ne_of_none z h))⟩
/-- a new cell -/
theorem Ex.cell {p : Addr} {o : HO} (h : H p = none) : Ex r H (r.add p) (upd H p o) :=
  ⟨⟨[p], rfl, fun a q => by simp at q; subst q; exact h⟩, rfl, fun a u q _ => by rw [upd_ne (ne_of_none q h)]; exact q, fun a u q => ⟨u, by rw [upd_ne (ne_of_none q h)]; exact q⟩⟩
theorem RS.pushC {p : Addr} {cc : Cell} {H' : Hp} (s : RS B r S H) (h : H p = none) (x : Ex r H (r.add p) H') (k : ∀ a u, H a = some u → H' a = some u) (q : RC B (r.add p) H' cc p) : RS B (r.add p) (S ++ [cc]) H' := by
  have np := s.freeC h
  have nz := (Rg.not.mp (s.free h)).2
  refine ⟨by simp [Rg.add, s.len], ?_, fun a ha => x.there a _ (s.zt a ha).choose_spec, fun a ha => ?_, fun n c a h1 h2 => ?_⟩
  · show (r.c ++ [p]).Nodup
    rw [List.nodup_append]
    refine ⟨s.nd, by simp, fun a ha b hb => ?_⟩
    simp at hb; subst hb
    intro e; subst e; exact np ha
  · rcases List.mem_append.mp (show a ∈ r.c ++ [p] from ha) with z | z
    · exact s.zc a z
    · simp at z; subst z; exact nz
  · have h2 : (r.c ++ [p])[n]? = some a := h2
    by_cases hn : n < S.length
    · rw [List.getElem?_append_left hn] at h1
      rw [List.getElem?_append_left (by rw [s.len]; exact hn)] at h2
      have z := s.at_ n c a h1 h2
      obtain ⟨u, w⟩ := z.some
      exact z.car x.car ((k a u w).trans w.symm)
    · have e : n = S.length := by
        have := (List.getElem?_eq_some_iff.mp h1).1
        simp at this; omega
      subst e
      rw [List.getElem?_append_right (Nat.le_refl _)] at h1
      rw [List.getElem?_append_right (by rw [s.len]; exact Nat.le_refl _)] at h2
      simp at h1
      rw [s.len] at h2
      simp at h2
      subst h1 h2
      exact q
theorem RS.push {p : Addr} {vs : List V} {ds : List D} (s : RS B r S H) (h : H p = none) (q : RVs B r H ds vs) : RS B (r.add p) (S ++ [.lst ds]) (upd H p (.lst vs)) :=
  s.pushC h (.cell h) (fun a u w => (upd_ne (ne_of_none w h)).trans w) (.lst upd_same (q.mono (.cell h)))
theorem inj_get {l : List Addr} {a : Addr} {m n : Nat} (nd : l.Nodup) (h1 : l[m]? = some a) (h2 : l[n]? = some a) : m = n := by
  obtain ⟨l1, q1⟩ := List.getElem?_eq_some_iff.mp h1
  obtain ⟨l2, q2⟩ := List.getElem?_eq_some_iff.mp h2
  exact (List.getElem_inj nd).mp (Eq.trans q1 q2.symm)
/-- a cell is written -/
theorem Ex.put {a : Addr} {o : HO} (h : a ∈ r.c) : Ex r H r (upd H a o) :=
  ⟨⟨[], by simp, fun _ q => by cases q⟩, rfl, fun b u q n => by
    have nb : b ≠ a := fun e => n (by rw [e]; exact h)
    rw [upd_ne nb]; exact q, fun b u q => by
    by_cases e : b = a
    · subst e; exact ⟨o, upd_same⟩
    · exact ⟨u, by rw [upd_ne e]; exact q⟩⟩
theorem RS.putC {n : Nat} {a : Addr} {cc : Cell} {o : HO} (s : RS B r S H) (h : r.c[n]? = some a) (q : RC B r (upd H a o) cc a) : RS B r (S.set n cc) (upd H a o) := by
  have ha : a ∈ r.c := List.mem_of_getElem? h
  refine ⟨by simp [s.len], s.nd, fun b hb => (Ex.put (H := H) (o := o) ha).there b _ (s.zt b hb).choose_spec, s.zc, fun m c b h1 h2 => ?_⟩
  by_cases e : n = m
  · subst e
    rw [h] at h2; cases h2
    have hlt : n < S.length := by rw [← s.len]; exact (List.getElem?_eq_some_iff.mp h).1
    rw [List.getElem?_set_self hlt] at h1
    cases h1
    exact q
  · rw [List.getElem?_set_ne e] at h1
    have nb : b ≠ a := fun z => e (inj_get s.nd h (z ▸ h2))
    exact (s.at_ m c b h1 h2).car (Ex.put ha).car (upd_ne nb)
theorem RS.put {n : Nat} {a : Addr} {vs : List V} {ds : List D} (s : RS B r S H) (h : r.c[n]? = some a) (q : RVs B r H ds vs) : RS B r (S.set n (.lst ds)) (upd H a (.lst vs)) :=
  s.putC h (.lst upd_same (q.mono (.put (List.mem_of_getElem? h))))

/-! a list that is being made at p, out of sight -/
theorem Car.zin {p : Addr} {o : HO} (h : H p = none) : Car r H (r.mk' p) (upd H p o) :=
  ⟨fun _ _ q => q, fun a u q n => ⟨(upd_ne (ne_of_none q h)).trans q, by
    rw [Rg.not] at n ⊢
    refine ⟨n.1, fun m => ?_⟩
    rcases List.mem_cons.mp (show a ∈ p :: r.z from m) with z | z
    · exact ne_of_none q h z
    · exact n.2 z⟩⟩
theorem RS.zin {p : Addr} {o : HO} (s : RS B r S H) (h : H p = none) : RS B (r.mk' p) S (upd H p o) := by
  refine ⟨s.len, s.nd, fun a ha => ?_, fun a ha hz => ?_, fun n c a h1 h2 => ?_⟩
  · rcases List.mem_cons.mp (show a ∈ p :: r.z from ha) with z | z
    · subst z; exact ⟨o, upd_same⟩
    · obtain ⟨u, q⟩ := s.zt a z
      exact ⟨u, (upd_ne (ne_of_none q h)).trans q⟩
  · rcases List.mem_cons.mp (show a ∈ p :: r.z from hz) with z | z
    · subst z; exact s.freeC h ha
    · exact s.zc a ha z
  · have q := s.at_ n c a h1 h2
    obtain ⟨u, z⟩ := q.some
    exact q.car (Car.zin h) (upd_ne (ne_of_none z h))
theorem Car.zput {p : Addr} {o : HO} (h : p ∈ r.z) : Car r H r (upd H p o) :=
  ⟨fun _ _ q => q, fun a u q n => ⟨(upd_ne (fun e => (Rg.not.mp n).2 (by rw [e]; exact h))).trans q, n⟩⟩
theorem RS.zput {p : Addr} {o : HO} (s : RS B r S H) (h : p ∈ r.z) : RS B r S (upd H p o) :=
  ⟨s.len, s.nd, fun a ha => by
    by_cases e : a = p
    · subst e; exact ⟨o, upd_same⟩
    · obtain ⟨u, q⟩ := s.zt a ha
      exact ⟨u, (upd_ne e).trans q⟩, s.zc, fun n c a h1 h2 => (s.at_ n c a h1 h2).car (Car.zput h) (upd_ne (fun e => s.zc a (List.mem_of_getElem? h2) (by rw [e]; exact h)))⟩
theorem Car.zout {z : List Addr} (h : ∀ a, a ∈ z → a ∈ r.z) : Car r H (r.un z) H :=
  ⟨fun _ _ q => q, fun a u q n => ⟨q, by rw [Rg.not] at n ⊢; exact ⟨n.1, fun m => n.2 (h a m)⟩⟩⟩
theorem RS.zout {z : List Addr} (s : RS B r S H) (h : ∀ a, a ∈ z → a ∈ r.z) : RS B (r.un z) S H :=
  ⟨s.len, s.nd, fun a ha => s.zt a (h a ha), fun a ha q => s.zc a ha (h a q), fun n c a h1 h2 => (s.at_ n c a h1 h2).car (Car.zout h) rfl⟩
/-- from ahead of the making: a step, then the list grows -/
theorem Ex.zstep {p : Addr} {o : HO} {r1 : Rg} {H1 : Hp} (h : H p = none) (x : Ex r H (r1.un r.z) H1) (y : Ex r1 H1 r2 H2) (hp : p ∉ r2.c) : Ex r H (r2.un r.z) (upd H2 p o) := by
  have xy : Ex r H (r2.un r.z) H2 := by
    refine ⟨?_, rfl, fun a u q n => y.keep a u (x.keep a u q n) (x.outC q n), fun a u q => let ⟨u', q'⟩ := x.there a u q; y.there a u' q'⟩
    obtain ⟨⟨nw, e, hn⟩, _, _, xt⟩ := x
    obtain ⟨⟨nw2, e2, hn2⟩, _, _, _⟩ := y
    refine ⟨nw ++ nw2, ?_, fun a ha => ?_⟩
    · show r2.c = _
      rw [e2, show r1.c = _ from e, List.append_assoc]
    · rcases List.mem_append.mp ha with q | q
      · exact hn a q
      · cases w : H a with
        | none => rfl
        | some o =>
          obtain ⟨o', h'⟩ := xt a o w
          rw [hn2 a q] at h'; cases h'
  exact ⟨xy.pre, rfl, fun a u q n => (upd_ne (ne_of_none q h)).trans (xy.keep a u q n), fun a u q => by
    obtain ⟨u', q'⟩ := xy.there a u q
    exact ⟨u', (upd_ne (ne_of_none q h)).trans q'⟩⟩
theorem Ex.zgo {r1 : Rg} {H1 : Hp} (x : Ex r H (r1.un r.z) H1) (y : Ex r1 H1 r2 H2) : Ex r H (r2.un r.z) H2 := by
  refine ⟨?_, rfl, fun a u q n => y.keep a u (x.keep a u q n) (x.outC q n), fun a u q => let ⟨u', q'⟩ := x.there a u q; y.there a u' q'⟩
  obtain ⟨⟨nw, e, hn⟩, _, _, xt⟩ := x
  obtain ⟨⟨nw2, e2, hn2⟩, _, _, _⟩ := y
  refine ⟨nw ++ nw2, ?_, fun a ha => ?_⟩
  · show r2.c = _
    rw [e2, show r1.c = _ from e, List.append_assoc]
  · rcases List.mem_append.mp ha with q | q
    · exact hn a q
    · cases w : H a with
      | none => rfl
      | some o =>
        obtain ⟨o', h'⟩ := xt a o w
        rw [hn2 a q] at h'; cases h'
/-- the list is made: a cell from now on -/
theorem Car.seal {p : Addr} {z : List Addr} (hz : ∀ a, a ∈ z → a ∈ r.z) (hp : p ∈ r.z) : Car r H ((r.un z).add p) H :=
  ⟨fun n a q => by show (r.c ++ [p])[n]? = some a; rw [List.getElem?_append_left (List.getElem?_eq_some_iff.mp q).1]; exact q, fun a u q n => ⟨q, by
    rw [Rg.not] at n ⊢
    refine ⟨fun m => ?_, fun m => n.2 (hz a m)⟩
    rcases List.mem_append.mp (show a ∈ r.c ++ [p] from m) with w | w
    · exact n.1 w
    · simp at w; subst w; exact n.2 hp⟩⟩
theorem RS.seal {p : Addr} {z : List Addr} {vs : List V} {ds : List D} (s : RS B r S H) (hz : ∀ a, a ∈ z → a ∈ r.z) (hp : p ∈ r.z) (hc : p ∉ r.c) (hpz : p ∉ z) (hH : H p = some (.lst vs)) (hv : RVs B r H ds vs) : RS B ((r.un z).add p) (S ++ [.lst ds]) H := by
  refine ⟨by show (r.c ++ [p]).length = _; simp [s.len], ?_, fun a ha => s.zt a (hz a ha), fun a ha q => ?_, fun n c a h1 h2 => ?_⟩
  · show (r.c ++ [p]).Nodup
    rw [List.nodup_append]
    refine ⟨s.nd, by simp, fun a ha b hb => ?_⟩
    simp at hb; subst hb
    intro e; subst e; exact hc ha
  · rcases List.mem_append.mp (show a ∈ r.c ++ [p] from ha) with w | w
    · exact s.zc a w (hz a q)
    · simp at w; subst w; exact hpz q
  · have h2 : (r.c ++ [p])[n]? = some a := h2
    by_cases hn : n < S.length
    · rw [List.getElem?_append_left hn] at h1
      rw [List.getElem?_append_left (by rw [s.len]; exact hn)] at h2
      exact (s.at_ n c a h1 h2).car (Car.seal hz hp) rfl
    · have e : n = S.length := by
        have := (List.getElem?_eq_some_iff.mp h1).1
        simp at this; omega
      subst e
      rw [List.getElem?_append_right (Nat.le_refl _)] at h1
      rw [List.getElem?_append_right (by rw [s.len]; exact Nat.le_refl _)] at h2
      simp at h1
      rw [s.len] at h2
      simp at h2
      subst h1 h2
      exact .lst hH (hv.car (Car.seal hz hp))
/-- .. seen from ahead of it -/
theorem Ex.seal {p : Addr} (h : H p = none) (x : Ex r H (r2.un r.z) H2) : Ex r H ((r2.un r.z).add p) H2 := by
  obtain ⟨⟨nw, e, hn⟩, hz, hk, ht⟩ := x
  refine ⟨⟨nw ++ [p], ?_, fun a ha => ?_⟩, rfl, hk, ht⟩
  · show r2.c ++ [p] = _
    rw [show r2.c = _ from e, List.append_assoc]
  · rcases List.mem_append.mp ha with q | q
    · exact hn a q
    · simp at q; subst q; exact h
/-! a dict goes under lock and back -/
/-- at each place the same, but for a dict's lock -/
structure Lck (H H' : Hp) : Prop where
  at_ : ∀ a, H' a = H a ∨ (∃ od kvs, H a = some (.dK kvs) ∧ H' a = some (.frz od (.dK kvs))) ∨ ∃ od kvs, H a = some (.frz od (.dK kvs)) ∧ H' a = some (.dK kvs)
theorem Lck.lk {a : Addr} {kvs : List (Key × V)} {od : Obj} (h : H a = some (.dK kvs)) : Lck H (upd H a (.frz od (.dK kvs))) :=
  ⟨fun b => by
    by_cases e : b = a
    · subst e; exact .inr (.inl ⟨od, kvs, h, upd_same⟩)
    · exact .inl (upd_ne e)⟩
theorem Lck.un {a : Addr} {kvs : List (Key × V)} {od : Obj} (h : H a = some (.frz od (.dK kvs))) : Lck H (upd H a (.dK kvs)) :=
  ⟨fun b => by
    by_cases e : b = a
    · subst e; exact .inr (.inr ⟨od, kvs, h, upd_same⟩)
    · exact .inl (upd_ne e)⟩
theorem Lck.frz0 {a : Addr} {o : Obj} {u : HO} (x : Lck H H') (hu : ∀ kvs, u ≠ .dK kvs) (h : H a = some (.frz o u)) : H' a = some (.frz o u) := by
  rcases x.at_ a with e | ⟨od, kvs, e, _⟩ | ⟨od, kvs, e, _⟩
  · rw [e]; exact h
  · rw [e] at h; cases h
  · rw [e] at h; cases h; exact absurd rfl (hu kvs)
theorem Lck.keep {a : Addr} {u : HO} (x : Lck H H') (hu : ∀ kvs, u ≠ .dK kvs) (hf : ∀ od kvs, u ≠ .frz od (.dK kvs)) (h : H a = some u) : H' a = some u := by
  rcases x.at_ a with e | ⟨od, kvs, e, _⟩ | ⟨od, kvs, e, _⟩
  · rw [e]; exact h
  · rw [e] at h; cases h; exact absurd rfl (hu kvs)
  · rw [e] at h; cases h; exact absurd rfl (hf od kvs)
theorem Lck.there {a : Addr} (x : Lck H H') : (∃ o, H a = some o) ↔ ∃ o, H' a = some o := by
  rcases x.at_ a with e | ⟨od, kvs, e, e'⟩ | ⟨od, kvs, e, e'⟩
  · rw [e]
  · rw [e, e']; exact ⟨fun _ => ⟨_, rfl⟩, fun _ => ⟨_, rfl⟩⟩
  · rw [e, e']; exact ⟨fun _ => ⟨_, rfl⟩, fun _ => ⟨_, rfl⟩⟩
theorem Lck.rd {a : Addr} {u : HO} (x : Lck H H') (hu : ∀ kvs, u ≠ .dK kvs) (hf : ∀ od kvs, u ≠ .frz od (.dK kvs)) (h : Rd H a u) : Rd H' a u := by
  rcases h with h | ⟨o, h⟩
  · exact .inl (x.keep hu hf h)
  · exact .inr ⟨o, x.frz0 hu h⟩
theorem Lck.rdK {a : Addr} {kvs : List (Key × V)} (x : Lck H H') (h : Rd H a (.dK kvs)) : Rd H' a (.dK kvs) := by
  rcases x.at_ a with e | ⟨od, k2, e, e'⟩ | ⟨od, k2, e, e'⟩
  · rcases h with h | ⟨o, h⟩
    · exact .inl (e.trans h)
    · exact .inr ⟨o, e.trans h⟩
  · rcases h with h | ⟨o, h⟩ <;> rw [e] at h <;> cases h
    exact .inr ⟨_, e'⟩
  · rcases h with h | ⟨o, h⟩ <;> rw [e] at h <;> cases h
    exact .inl e'
mutual
theorem RV.lck (x : Lck H H') : ∀ {d : D} {v : V}, RV B r H d v → RV B r H' d v
  | _, _, .non => .non
  | _, _, .bl b => .bl b
  | _, _, .int i => .int i
  | _, _, .str y => .str y
  | _, _, .ty n => .ty n
  | _, _, .ref h => .ref h
  | _, _, .tup n h hs => .tup n (x.rd (fun _ q => by cases q) (fun _ _ q => by cases q) h) (RVs.lck x hs)
  | _, _, .tupK h hs => .tupK h (RVs.lck x hs)
  | _, _, .lst n h hs => .lst n (x.keep (fun _ q => by cases q) (fun _ _ q => by cases q) h) (RVs.lck x hs)
  | _, _, .rol n h hs => .rol n (x.rd (fun _ q => by cases q) (fun _ _ q => by cases q) h) (RVs.lck x hs)
  | _, _, .rolK h hs => .rolK h (RVs.lck x hs)
  | _, _, .ins c n l h hs => .ins c n l (x.keep (fun _ q => by cases q) (fun _ _ q => by cases q) h) (RVs.lck x hs)
  | _, _, .exc c n l h hs => .exc c n l (x.keep (fun _ q => by cases q) (fun _ _ q => by cases q) h) (RVs.lck x hs)
  | _, _, .dct n l h hs => .dct n l (x.rdK h) (RVs.lck x hs)
theorem RVs.lck (x : Lck H H') : ∀ {ds : List D} {vs : List V}, RVs B r H ds vs → RVs B r H' ds vs
  | _, _, .nil => .nil
  | _, _, .cons h hs => .cons (RV.lck x h) (RVs.lck x hs)
end
/-- a cell elsewhere -/
theorem RC.lck {c : Cell} {a : Addr} (x : Lck H H') (k : H' a = H a) (h : RC B r H c a) : RC B r H' c a := by
  cases h with
  | lst h hs => exact .lst (k.trans h) (hs.lck x)
  | ins c l h hs => exact .ins c l (k.trans h) (hs.lck x)
  | dct l h hs => exact .dct l (k.trans h) (hs.lck x)
  | dctL l h hs => exact .dctL l (k.trans h) (hs.lck x)
/-- what is no cell goes under lock -/
theorem RS.lckV {a : Addr} {o : HO} (s : RS B r S H) (na : a ∉ r.c) (x : Lck H (upd H a o)) : RS B r S (upd H a o) :=
  ⟨s.len, s.nd, fun b hb => x.there.mp (s.zt b hb), s.zc, fun n c b h1 h2 => (s.at_ n c b h1 h2).lck x (upd_ne fun e => na (e ▸ List.mem_of_getElem? h2))⟩
/-- a cell does -/
theorem RS.lckC {n : Nat} {a : Addr} {cc : Cell} {o : HO} (s : RS B r S H) (h : r.c[n]? = some a) (x : Lck H (upd H a o)) (q : RC B r (upd H a o) cc a) : RS B r (S.set n cc) (upd H a o) := by
  refine ⟨by simp [s.len], s.nd, fun b hb => x.there.mp (s.zt b hb), s.zc, fun m c b h1 h2 => ?_⟩
  by_cases e : n = m
  · subst e
    rw [h] at h2; cases h2
    have hlt : n < S.length := by rw [← s.len]; exact (List.getElem?_eq_some_iff.mp h).1
    rw [List.getElem?_set_self hlt] at h1
    cases h1
    exact q
  · rw [List.getElem?_set_ne e] at h1
    have nb : b ≠ a := fun z => e (inj_get s.nd h (z ▸ h2))
    exact (s.at_ m c b h1 h2).lck x (upd_ne nb)
theorem Ex.zstart {p : Addr} {o : HO} (h : H p = none) : Ex r H ((r.mk' p).un r.z) (upd H p o) := Ex.new h
end
end M

set_option Elab.async false
set_option maxRecDepth 100000
set_option maxHeartbeats 8000000
/-! M2: a small language; what its code wants (wp); when a piece of syntax is such code (checks). -/
namespace M
open PySem L2

/-- built-in functions -/
inductive Bi where
  | abs | isqrt | max2 | min2 | int | len | repr | sum | max | min | maxd | mind | max3 | tuple | all | any | bool | str
  deriving DecidableEq
/-- built-in functions that make a list -/
inductive Bl where
  | sorted | list
  deriving DecidableEq
/-- methods -/
inductive Me where
  | append | pop | extend | index | remove | reverse | clear | insert
  deriving DecidableEq
/-- methods of texts -/
inductive Sm where
  | starts | ends | upper | join
  deriving DecidableEq

mutual
inductive E where
  | var (i : Nat)
  | cst (d : D)
  | glb (k : Nat)
  | bin (m : Bool) (o : Operator) (a b : E)
  | neg (a : E)
  | cmp (o : CmpOp) (a b : E)
  | cmp2 (o p : CmpOp) (a b c : E)
  | and (a b : E)
  | or (a b : E)
  | not (a : E)
  | ite (c a b : E)
  | tup (es : Es)
  | lst (m : Bool) (es : Es)
  | ix (a i : E)
  | sl (m : Bool) (a : E) (lo hi : Oe)
  | rv (m : Bool) (a : E)
  | bi (f : Bi) (es : Es)
  | bl (m : Bool) (f : Bl) (es : Es)
  | call (k : Nat) (es : Es)
  | callK (k : Nat) (pm : List Nat) (es ks : Es)
  | callS (k n : Nat) (a : E)
  | me (f : Me) (o : E) (es : Es)
  | lc (m : Bool) (e : E) (t : Tg) (it : It) (c : Oe) (vs : List Nat)
  | lr (m : Bool) (es : Es)
  | mxd (a d : E)
  | isi (a : E) (T : String)
  /-- of a caught exception: a field; whether it is of a class; of one of some -/
  | xat (a : E) (f : Str)
  | xis (a : E) (tb : List (Str × Bool))
  | xit (a : E) (tbs : List (List (Str × Bool)))
  /-- a dict with written keys; whether it may change -/
  | dsp (m : Bool) (ks : List Key) (es : Es)
  /-- a text in a dict of the module -/
  | kin (neg : Bool) (a : E) (x : Str) (zs : List Str)
  /-- a text's method -/
  | sm (f : Sm) (o : E) (es : Es)
  /-- f'..' -/
  | fs (es : Es)
  /-- a field of an instance of one of some classes -/
  | fld (a : E) (f : Str) (cs : List Str)
  /-- a method of an instance: by its class, which function, where the arguments go -/
  | mth (tb : List (Str × Nat × List Nat)) (m : Str) (o : E) (es ks : Es)
  /-- a new instance -/
  | mkc (k : Nat) (c : Str) (pm : List Nat) (es ks : Es)
  /-- list(d.values()) -/
  | dvl (m : Bool) (o : E)
  /-- a comprehension over a dict that a name stands for: its keys, values, pairs -/
  | lcd (m : Bool) (kd i : Nat) (e : E) (t : Tg) (c : Oe) (vs : List Nat)
inductive Es where
  | nil
  | cons (e : E) (es : Es)
inductive Oe where
  | no
  | so (e : E)
inductive It where
  | seq (e : E)
  | rng (es : Es)
  | enu (e : E)
  | zip (a b : E)
  | zip3 (a b c : E)
  | zipn (es : Es)
inductive Tg where
  | nm (i : Nat)
  | tp (ts : Tgs)
  | ix (o i : E)
  | at_ (o : E) (f : Str) (cs : List Str)
inductive Tgs where
  | nil
  | cons (t : Tg) (ts : Tgs)
end
mutual
inductive St' where
  | asg (t : Tg) (e : E)
  | par (ts : Tgs) (es : Es)
  | aug (i : Nat) (o : Operator) (e : E)
  | ex (e : E)
  | ret (e : E)
  | retN
  | ite (c : E) (a b : Ss)
  | whl (c : E) (b : Ss)
  | for_ (t : Tg) (it : It) (b : Ss)
  | pass
  | brk
  | cont
  | raise (c : Str) (ns : List Str) (es : Es)
  | tryAs (tb : List (Str × Bool)) (i : Nat) (b s : Ss)
  | tryOn (tb : List (Str × Bool)) (b s : Ss)
  /-- .. with a second clause, that is not reached -/
  | tryAs2 (tb : List (Str × Bool)) (i : Nat) (b s : Ss)
  /-- for t in d, a dict that a name stands for -/
  | forD (d t : Nat) (b : Ss)
inductive Ss where
  | nil
  | cons (s : St') (ss : Ss)
end

/-! ### what operations want -/
abbrev Post := D → Store → Prop
/-- a list that may be told apart from all others: its items -/
def lsM (S : Store) : D → Option (List D)
  | .lst ds => some ds
  | .ref n => match S[n]? with
    | some (.lst ds) => some ds
    | _ => none
  | _ => none
/-- any list's items -/
def lsOf (S : Store) : D → Option (List D)
  | .rol ds => some ds
  | d => lsM S d
/-- a list's or a tuple's items -/
def sqOf (S : Store) : D → Option (List D)
  | .tup ds => some ds
  | d => lsOf S d
/-- keys of dicts -/
def kOf : D → Option Key
  | .int i => some (.inl i)
  | .str x => some (.inr x)
  | _ => none
def keyD : Key → D
  | .inl i => .int i
  | .inr x => .str x
/-- a dict's keys and values -/
def dcOf (S : Store) : D → Option (List Key × List D)
  | .dct ks ds => some (ks, ds)
  | .ref n => match S[n]? with
    | some (.dct _ ks ds) => some (ks, ds)
    | _ => none
  | _ => none
def atK : List Key → List D → Key → Option D
  | k :: ks, d :: ds, j => if k = j then some d else atK ks ds j
  | _, _, _ => none
/-- a value is put -/
def setKs : List Key → List D → Key → D → List D
  | k :: ks, d :: ds, j, y => (if k = j then y else d) :: setKs ks ds j y
  | _, _, _, _ => []
def hasK (ks : List Key) (j : Key) : Bool := ks.any fun k => decide (k = j)
def putKs (ks : List Key) (j : Key) : List Key := if hasK ks j = true then ks else ks ++ [j]
def putDs (ks : List Key) (ds : List D) (j : Key) (y : D) : List D := if hasK ks j = true then setKs ks ds j y else ds ++ [y]
def lnOf (S : Store) (x : D) : Option Nat := match sqOf S x with
  | some ds => some ds.length
  | none => (dcOf S x).map fun p => p.1.length
def mkDc (m : Bool) (ks : List Key) (ds : List D) (S : Store) (Q : Post) : Prop := match m with
  | true => Q (.ref S.length) (S ++ [.dct false ks ds])
  | false => Q (.dct ks ds) S
def mkL (m : Bool) (ds : List D) (S : Store) (Q : Post) : Prop := match m with
  | true => Q (.ref S.length) (S ++ [.lst ds])
  | false => Q (.lst ds) S
/-- a cell's list is read -/
def rd (S : Store) : D → D
  | .ref n => match S[n]? with
    | some (.lst ds) => .lst ds
    | _ => .ref n
  | d => d
mutual
def toP : D → PyData
  | .non => .none
  | .bl b => .bool b
  | .int i => .int i
  | .str x => .str x
  | .tup xs => .tuple (toPs xs)
  | .lst xs => .list (toPs xs)
  | .rol xs => .list (toPs xs)
  | .dct _ _ => .dict []
  | _ => .none
def toPs : List D → List PyData
  | [] => []
  | x :: xs => toP x :: toPs xs
end
mutual
/-- plain data -/
def pd : D → Bool
  | .non => true
  | .bl _ => true
  | .int _ => true
  | .str x => PyData.strOk x
  | .tup xs => pds xs
  | .lst xs => pds xs
  | .rol xs => pds xs
  | _ => false
def pds : List D → Bool
  | [] => true
  | x :: xs => pd x && pds xs
end
mutual
/-- .. where an empty dict may stand, too -/
def pdx : D → Bool
  | .non => true
  | .bl _ => true
  | .int _ => true
  | .str x => PyData.strOk x
  | .tup xs => pdxs xs
  | .lst xs => pdxs xs
  | .rol xs => pdxs xs
  | .dct ks ds => ks.isEmpty && ds.isEmpty
  | _ => false
def pdxs : List D → Bool
  | [] => true
  | x :: xs => pdx x && pdxs xs
end
def okX (d : D) : Prop := pdx d = true ∧ (toP d).depth ≤ 60
def okD (d : D) : Prop := pd d = true ∧ (toP d).depth ≤ 60
mutual
/-- a bound of the length of what is shown -/
def wid : D → Nat
  | .str x => 10 * x.length + 2
  | .int _ => 2000
  | .tup xs => wids xs + 3
  | .lst xs => wids xs + 3
  | .rol xs => wids xs + 3
  | _ => 5
def wids : List D → Nat
  | [] => 0
  | x :: xs => wid x + 2 + wids xs
end
mutual
/-- its integers can be shown -/
def shw : D → Bool
  | .int i => decide (i.natAbs.log2 < 1900)
  | .tup xs => shws xs
  | .lst xs => shws xs
  | .rol xs => shws xs
  | _ => true
def shws : List D → Bool
  | [] => true
  | x :: xs => shw x && shws xs
end
def wEq (x y : D) (S : Store) (k : Bool → Prop) : Prop := match x, y with
  | .tup xs, .tup [] => k xs.isEmpty
  | .int i, .int j => k (decide (i = j))
  | .str a, .str b => k (decide (a = b))
  | .bl a, .bl b => k (decide (a = b))
  | x, y => okD (rd S x) ∧ okD (rd S y) ∧ k (PyData.eqv (toP (rd S x)) (toP (rd S y)))
def isNon : D → Bool
  | .non => true
  | _ => false
def wIs (x y : D) (k : Bool → Prop) : Prop := match x, y with
  | x, .non => k (isNon x)
  | .bl a, .bl b => k (decide (a = b))
  | _, _ => False
/-- an order of plain data -/
def wLt (x y : D) (S : Store) (k : Bool → Prop) : Prop :=
  okD (rd S x) ∧ okD (rd S y) ∧ PySem.W.alike (toP (rd S x)) (toP (rd S y)) = true ∧ toP (rd S x) ≠ .none ∧ k (PySem.W.dataLt (toP (rd S x)) (toP (rd S y)))
def isStr : D → Bool
  | .str _ => true
  | _ => false
def flat : D → Bool
  | .non => true
  | .bl _ => true
  | .int _ => true
  | .str _ => true
  | _ => false
def eqF : D → D → Bool
  | .non, .non => true
  | .bl a, .bl b => decide (a = b)
  | .int a, .int b => decide (a = b)
  | .str a, .str b => decide (a = b)
  | .bl a, .int b => decide ((if a then 1 else 0) = b)
  | .int a, .bl b => decide (a = (if b then 1 else 0))
  | _, _ => false
def wIn (x y : D) (S : Store) (k : Bool → Prop) : Prop := match y with
  | .tup ds => match x with
    | .tup es => okD (.tup es) ∧ okD (.tup ds) ∧ k (ds.any fun z => PyData.eqv (toP z) (toP (.tup es)))
    | x => flat x = true ∧ ds.all flat = true ∧ k (ds.any fun z => eqF z x)
  | .dct ks _ => ∃ j, kOf x = some j ∧ k (hasK ks j)
  | .ref n => match S[n]? with
    | some (.dct _ ks _) => ∃ j, kOf x = some j ∧ k (hasK ks j)
    | _ => ∃ ds, lsOf S (.ref n) = some ds ∧ okD (rd S x) ∧ okD (.lst ds) ∧ k (ds.any fun z => PyData.eqv (toP z) (toP (rd S x)))
  | .lst ds => match x with
    | .dct _ _ => ds.all isStr = true ∧ k false
    | x => okD (rd S x) ∧ okD (.lst ds) ∧ k (ds.any fun z => PyData.eqv (toP z) (toP (rd S x)))
  | .str z => ∃ c, x = .str ⟨#[c]⟩ ∧ k (decide (c ∈ z.cps.toList))
  | y => ∃ ds, lsOf S y = some ds ∧ okD (rd S x) ∧ okD (.lst ds) ∧ k (ds.any fun z => PyData.eqv (toP z) (toP (rd S x)))
def wCmp (o : CmpOp) (x y : D) (S : Store) (k : Bool → Prop) : Prop := match o with
  | .Eq => wEq x y S k
  | .NotEq => wEq x y S fun b => k (!b)
  | .Lt => match x, y with
    | .int i, .int j => k (decide (i < j))
    | x, y => wLt x y S k
  | .LtE => match x, y with
    | .int i, .int j => k (decide (i ≤ j))
    | x, y => False
  | .Gt => match x, y with
    | .int i, .int j => k (decide (j < i))
    | x, y => False
  | .GtE => match x, y with
    | .int i, .int j => k (decide (j ≤ i))
    | x, y => False
  | .Is => wIs x y k
  | .IsNot => wIs x y fun b => k (!b)
  | .In => wIn x y S k
  | .NotIn => wIn x y S fun b => k (!b)
/-- the factors of a product -/
def mulOk (i j : Int) : Prop := i.natAbs < 2 ^ 64 ∨ j.natAbs < 2 ^ 64 ∨ i.natAbs.log2 + j.natAbs.log2 < 1000000
def divOk (j : Int) : Prop := 0 < j ∧ j.natAbs.log2 < 9000
def powOk (i j : Int) : Prop := 0 ≤ j ∧ j ≤ 1000000 ∧ i.natAbs < 2 ^ 64
def wBin (m : Bool) (o : Operator) (x y : D) (S : Store) (Q : Post) : Prop := match o, x, y with
  | .Add, .int i, .int j => Q (.int (i + j)) S
  | .Sub, .int i, .int j => Q (.int (i - j)) S
  | .Mult, .int i, .int j => mulOk i j ∧ Q (.int (i * j)) S
  | .FloorDiv, .int i, .int j => divOk j ∧ Q (.int (i / j)) S
  | .Mod, .int i, .int j => 0 < j ∧ Q (.int (i % j)) S
  | .Pow, .int i, .int j => powOk i j ∧ Q (.int (i ^ j.toNat)) S
  | .Add, .tup xs, .tup ys => xs.length + ys.length ≤ sizeLine ∧ Q (.tup (xs ++ ys)) S
  | .Add, .str a, .str b => a.length + b.length ≤ sizeLine ∧ Q (.str (a ++ b)) S
  | .Add, x, y => ∃ xs ys, lsM S x = some xs ∧ lsM S y = some ys ∧ xs.length + ys.length ≤ sizeLine ∧ mkL m (xs ++ ys) S Q
  | .Mult, .tup xs, .int k => xs ≠ [] ∧ 2 ≤ k ∧ k ≤ 1000 ∧ xs.length ≤ 1000 ∧ Q (.tup (List.replicate k.toNat xs).flatten) S
  | .Mult, x, .int k => ∃ xs, lsM S x = some xs ∧ k.natAbs ≤ 1000 ∧ xs.length ≤ 1000 ∧ mkL m (List.replicate k.toNat xs).flatten S Q
  | _, _, _ => False
/-- x op= y -/
def wAug (o : Operator) (x y : D) (Q : D → Prop) : Prop := match o, x, y with
  | .Add, .int i, .int j => Q (.int (i + j))
  | .Sub, .int i, .int j => Q (.int (i - j))
  | .Mult, .int i, .int j => mulOk i j ∧ Q (.int (i * j))
  | _, _, _ => False
def wNeg (x : D) (S : Store) (Q : Post) : Prop := match x with
  | .int i => Q (.int (-i)) S
  | _ => False
def wIx (x y : D) (S : Store) (Q : Post) : Prop := match x, y with
  | .str z, .int i => z.length ≤ sizeLine ∧ ∃ c, atI z.cps.toList i = some c ∧ Q (.str ⟨#[c]⟩) S
  | .dct ks ds, y => ∃ k d, kOf y = some k ∧ atK ks ds k = some d ∧ Q d S
  | .ref n, y => match S[n]? with
    | some (.dct _ ks ds) => ∃ k d, kOf y = some k ∧ atK ks ds k = some d ∧ Q d S
    | _ => match y with
      | .int i => ∃ ds d, sqOf S (.ref n) = some ds ∧ atI ds i = some d ∧ Q d S
      | _ => False
  | x, .int i => ∃ ds d, sqOf S x = some ds ∧ atI ds i = some d ∧ Q d S
  | _, _ => False
/-- the items of xs[lo:hi] -/
def cutD (xs : List D) (lo hi : Option Int) : List D := (xs.drop (HT.sIx xs.length 0 lo)).take (HT.sIx xs.length xs.length hi - HT.sIx xs.length 0 lo)
def wSl (m : Bool) (x : D) (lo hi : Option Int) (S : Store) (Q : Post) : Prop := match x with
  | .tup xs => Q (.tup (cutD xs lo hi)) S
  | .str z => z.length ≤ sizeLine ∧ Q (.str (cutS z lo hi)) S
  | x => ∃ xs, lsOf S x = some xs ∧ mkL m (cutD xs lo hi) S Q
def wRv (m : Bool) (x : D) (S : Store) (Q : Post) : Prop := ∃ xs, lsOf S x = some xs ∧ mkL m xs.reverse S Q
/-- the integers of a list -/
def intsOf : List D → Option (List Int)
  | [] => some []
  | .int i :: r => (intsOf r).map (i :: ·)
  | _ => none
def isqrtOk (i : Int) : Prop := 0 ≤ i ∧ i.toNat.log2 ≤ 10000
/-- the truths of a list -/
def blsOf : List D → Option (List Bool)
  | [] => some []
  | .bl i :: r => (blsOf r).map (i :: ·)
  | _ => none
/-- data that can be put in order -/
def alkD (ds : List D) : Prop := PySem.W.AlikeAll (toPs ds)
/-- max(x, default=y) -/
def wMxd (x y : D) (S : Store) (Q : Post) : Prop := ∃ ds, sqOf S x = some ds ∧ okD (.lst ds) ∧ alkD ds ∧ (ds = [] → Q y S) ∧ ∀ d r e, ds = d :: r → e ∈ ds → toP e = PySem.W.maxD (toP d) (toPs r) → Q e S
/-- a value's type -/
def tyD (S : Store) : D → Option String
  | .non => some "NoneType"
  | .bl _ => some "bool"
  | .int _ => some "int"
  | .str _ => some "str"
  | .tup _ => some "tuple"
  | .lst _ => some "list"
  | .rol _ => some "list"
  | .ref n => match S[n]? with
    | some (.lst _) => some "list"
    | some (.dct _ _ _) => some "dict"
    | _ => none
  | .dct _ _ => some "dict"
  | _ => none
def isTy (T : String) : Bool := T == "int" || T == "bool" || T == "str" || T == "tuple" || T == "list" || T == "dict"
def isB (t T : String) : Bool := t == T || (t == "bool" && T == "int")
def wIsi (T : String) (x : D) (S : Store) (Q : Post) : Prop := ∃ t, tyD S x = some t ∧ Q (.bl (isB t T)) S
/-- sorted -/
def srtD (ds : List D) : List D := ds.mergeSort (PySem.W.dataLe false toP)
def wBi (f : Bi) (ds : List D) (S : Store) (Q : Post) : Prop := match f, ds with
  | .abs, [.int i] => Q (.int i.natAbs) S
  | .isqrt, [.int i] => isqrtOk i ∧ Q (.int (Float64.isqrt i.toNat : Nat)) S
  | .max2, [.int i, .int j] => Q (.int (max i j)) S
  | .max3, [.int i, .int j, .int k] => Q (.int (max (max i j) k)) S
  | .min2, [.int i, .int j] => Q (.int (min i j)) S
  | .int, [.int i] => Q (.int i) S
  | .int, [.bl b] => Q (.int (if b then 1 else 0)) S
  | .int, [.str a] => ∃ n, PySem.intText? a = some n ∧ a.length ≤ 640 ∧ Q (.int n) S
  | .len, [.str z] => z.length ≤ sizeLine ∧ Q (.int z.length) S
  | .len, [x] => ∃ n : Nat, lnOf S x = some n ∧ Q (.int n) S
  | .repr, [x] => okX (rd S x) ∧ shw (rd S x) = true ∧ wid (rd S x) ≤ sizeLine ∧ Q (.str (toP (rd S x)).shown) S
  | .str, [.int i] => i.natAbs.log2 < 1920 ∧ Q (.str (Str.ofString (toString i))) S
  | .str, [.str z] => Q (.str z) S
  | .sum, [x] => ∃ ds ns, sqOf S x = some ds ∧ intsOf ds = some ns ∧ Q (.int ns.sum) S
  | .max, [x] => ∃ d r, sqOf S x = some (d :: r) ∧ okD (.lst (d :: r)) ∧ alkD (d :: r) ∧ ∀ e, e ∈ d :: r → toP e = PySem.W.maxD (toP d) (toPs r) → Q e S
  | .min, [x] => ∃ d r, sqOf S x = some (d :: r) ∧ okD (.lst (d :: r)) ∧ alkD (d :: r) ∧ ∀ e, e ∈ d :: r → toP e = PySem.W.minD (toP d) (toPs r) → Q e S
  | .all, [x] => ∃ ds bs, sqOf S x = some ds ∧ blsOf ds = some bs ∧ Q (.bl (bs.all id)) S
  | .any, [x] => ∃ ds bs, sqOf S x = some ds ∧ blsOf ds = some bs ∧ Q (.bl (bs.any id)) S
  | .tuple, [.tup ds] => Q (.tup ds) S
  | .tuple, [x] => ∃ ds, lsOf S x = some ds ∧ Q (.tup ds) S
  | _, _ => False
def wBl (m : Bool) (f : Bl) (ds : List D) (S : Store) (Q : Post) : Prop := match f, ds with
  | .sorted, [x] => ∃ ds, sqOf S x = some ds ∧ okD (.lst ds) ∧ PySem.W.AllAlike (toPs ds) ∧ PySem.W.Sortable (toPs ds) ∧ mkL m (srtD ds) S Q
  | .list, [x] => ∃ ds, sqOf S x = some ds ∧ mkL m ds S Q
  | _, _ => False
def wMe (f : Me) (o : D) (ds : List D) (S : Store) (Q : Post) : Prop := match f, o, ds with
  | .append, .ref n, [d] => ∃ xs, S[n]? = some (.lst xs) ∧ xs.length < sizeLine ∧ Q .non (S.set n (.lst (xs ++ [d])))
  | .remove, .ref n, [.int z] => ∃ xs ns, S[n]? = some (.lst xs) ∧ intsOf xs = some ns ∧ z ∈ ns ∧ Q .non (S.set n (.lst ((ns.erase z).map .int)))
  | .remove, .ref n, [d] => ∃ xs j, S[n]? = some (.lst xs) ∧ okD d ∧ okD (.lst xs) ∧ (xs.findIdx? fun z => PyData.eqv (toP z) (toP d)) = some j ∧ Q .non (S.set n (.lst (xs.eraseIdx j)))
  | .extend, .ref n, [x] => ∃ xs ys, S[n]? = some (.lst xs) ∧ lsM S x = some ys ∧ xs.length + ys.length ≤ sizeLine ∧ Q .non (S.set n (.lst (xs ++ ys)))
  | .reverse, .ref n, [] => ∃ xs, S[n]? = some (.lst xs) ∧ Q .non (S.set n (.lst xs.reverse))
  | .clear, .ref n, [] => ∃ xs, S[n]? = some (.lst xs) ∧ Q .non (S.set n (.lst []))
  | .insert, .ref n, [.int i, d] => ∃ xs, S[n]? = some (.lst xs) ∧ xs.length < sizeLine ∧ 0 ≤ i ∧ i < 2 ^ 63 ∧ Q .non (S.set n (.lst (xs.take i.toNat ++ [d] ++ xs.drop i.toNat)))
  | .pop, .ref n, [.int z] => ∃ xs j d, S[n]? = some (.lst xs) ∧ -(2 ^ 63) ≤ z ∧ z < 2 ^ 63 ∧ seqIndex? z xs.length = some j ∧ xs[j]? = some d ∧ Q d (S.set n (.lst (xs.eraseIdx j)))
  | .pop, .ref n, [] => ∃ xs d, S[n]? = some (.lst xs) ∧ xs[xs.length - 1]? = some d ∧ Q d (S.set n (.lst xs.dropLast))
  | _, _, _ => False
/-- the texts of a list -/
def strsOf : List D → Option (List Str)
  | [] => some []
  | .str z :: r => (strsOf r).map (z :: ·)
  | _ => none
def wSm (f : Sm) (o : D) (ds : List D) (S : Store) (Q : Post) : Prop := match f, o, ds with
  | .starts, .str a, [.str b] => Q (.bl (Txt.startswith a b)) S
  | .ends, .str a, [.str b] => Q (.bl (Txt.endswith a b)) S
  | .upper, .str a, [] => a.length ≤ 5592405 ∧ Q (.str (Txt.upper a)) S
  | .join, .str a, [x] => ∃ ds ys, sqOf S x = some ds ∧ strsOf ds = some ys ∧ (ys.map (·.length)).sum + ys.length * a.length ≤ 16777216 ∧ Q (.str (Txt.join a ys)) S
  | _, _, _ => False
/-- {x} in f'..' -/
def fmtD : D → Option Str
  | .str y => some y
  | .int i => if i.natAbs.log2 < 1920 then some (Str.ofString (toString i)) else none
  | _ => none
/-- o[i] = d -/
def wSet (o i d : D) (S : Store) (Q : Store → Prop) : Prop := match o with
  | .ref n => match S[n]?, i with
    | some (.lst xs), .int k => ∃ j, ixN xs.length k = some j ∧ Q (S.set n (.lst (xs.set j d)))
    | some (.dct false ks ds), i => ∃ k, kOf i = some k ∧ ks.length < sizeLine ∧ Q (S.set n (.dct false (putKs ks k) (putDs ks ds k d)))
    | _, _ => False
  | _ => False
def wB (x : D) (k : Bool → Prop) : Prop := match x with
  | .bl b => k b
  | _ => False

/-! ### what code wants -/
/-- what a loop walks -/
structure Src where
  items : List D
  own : Option Nat := none
def Src.ok (c : Src) (S : Store) : Prop := match c.own with
  | none => True
  | some n => S[n]? = some (.lst c.items)
def srcOf (x : D) (S : Store) (k : Src → Prop) : Prop := match x with
  | .tup ds => k ⟨ds, none⟩
  | .lst ds => k ⟨ds, none⟩
  | .rol ds => k ⟨ds, none⟩
  | .ref n => ∃ ds, S[n]? = some (.lst ds) ∧ k ⟨ds, some n⟩
  | .str z => k ⟨z.cps.toList.map fun c => .str ⟨#[c]⟩, none⟩
  | _ => False
def rngItems (lo : Int) (n : Nat) : List D := (List.range n).map fun i => .int (lo + (i : Nat))
/-- a list's or a tuple's items that stay -/
def valOf : D → Option (List D)
  | .tup ds => some ds
  | .lst ds => some ds
  | .rol ds => some ds
  | _ => none
def zip2D (xs ys : List D) : List D := (xs.zip ys).map fun p => .tup [p.1, p.2]
/-- rows of items -/
def zipND (n : Nat) (dss : List (List D)) : List D := (List.range n).map fun i => .tup (dss.filterMap (·[i]?))
def wZn (ds : List D) (Q : Src → Prop) : Prop := ∃ dss n, ds.map valOf = dss.map some ∧ (∀ xs ∈ dss, xs.length = n) ∧ Q ⟨zipND n dss, none⟩
def zip3D (xs ys zs : List D) : List D := (xs.zip (ys.zip zs)).map fun p => .tup [p.1, p.2.1, p.2.2]
def enuD (xs : List D) : List D := xs.mapIdx fun i d => .tup [.int i, d]
/-- what a walk over a dict yields: keys, values, pairs -/
def dItems (kd : Nat) (ks : List Key) (ds : List D) : List D := match kd with
  | 0 => ks.map keyD
  | 1 => ds
  | _ => zip2D (ks.map keyD) ds
/-- list(range(..)) -/
def wLr (m : Bool) (ds : List D) (S : Store) (Q : Post) : Prop := match ds with
  | [.int j] => (0 ≤ j ∧ j ≤ 1000000) ∧ mkL m (rngItems 0 j.toNat) S Q
  | [.int i, .int j] => (-1000000 ≤ i ∧ i ≤ j ∧ j ≤ 1000000) ∧ mkL m (rngItems i (j - i).toNat) S Q
  | _ => False
def wRng (ds : List D) (k : Src → Prop) : Prop := match ds with
  | [.int j] => (-(2 ^ 62) ≤ j ∧ j < 2 ^ 62) ∧ k ⟨rngItems 0 j.toNat, none⟩
  | [.int i, .int j] => (-(2 ^ 62) ≤ i ∧ i < 2 ^ 62 ∧ -(2 ^ 62) ≤ j ∧ j < 2 ^ 62) ∧ k ⟨rngItems i (j - i).toNat, none⟩
  | _ => False
/-- what is wanted behind a statement -/
structure Dn where
  nx : Env' → Store → Prop
  rt : Post
  bk : Env' → Store → Prop := fun _ _ => False
  ct : Env' → Store → Prop := fun _ _ => False
abbrev MSp := List D → Store → Post → Post → Prop
structure Gam where
  fs : List MSp
  gl : List D := []
  ex : D → Env' → Store → Prop := fun _ _ _ => False
  xa : Option (Addr × Addr × Str) := none
def wCall (G : Gam) (k : Nat) (ds : List D) (e : Env') (S : Store) (Q : Post) : Prop := match G.fs[k]? with
  | some sp => sp ds S Q fun d S' => G.ex d e S'
  | none => False
/-- the slots of a comprehension's own names are empty at its start -/
def wipeD (e : Env') : List Nat → Env'
  | [] => e
  | i :: r => (wipeD e r).set i none
def tgsLen : Tgs → Nat
  | .nil => 0
  | .cons _ r => tgsLen r + 1
def pmut {α : Type} (pm : List Nat) (ds : List α) : List α := pm.filterMap fun i => ds[i]?
def Gam.nox (G : Gam) : Gam := { G with ex := fun _ _ _ => False, xa := none }
/-- within a try, within a suite -/
def Gam.tr (G : Gam) (ex : D → Env' → Store → Prop) : Gam := { fs := G.fs, gl := G.gl, ex := ex, xa := none }
def Gam.cat (G : Gam) (a dx : Addr) (c : Str) : Gam := { fs := G.fs, gl := G.gl, ex := fun _ _ _ => False, xa := some (a, dx, c) }
/-- a caught exception's field -/
def wXat (G : Gam) (x : D) (f : Str) (S : Store) (Q : Post) : Prop := ∃ ad dx c ns ds d, x = .exc ad dx c ns ds ∧ G.xa = some (ad, dx, c) ∧ (ns.zip ds).lookup f = some d ∧ Q d S
def wXis (G : Gam) (x : D) (tb : List (Str × Bool)) (S : Store) (Q : Post) : Prop := ∃ ad dx c ns ds b, x = .exc ad dx c ns ds ∧ G.xa = some (ad, dx, c) ∧ tb.lookup c = some b ∧ Q (.bl b) S
def anyTb (c : Str) : List (List (Str × Bool)) → Option Bool
  | [] => some false
  | tb :: r => match tb.lookup c with
    | some true => some true
    | some false => anyTb c r
    | none => none
def wXit (G : Gam) (x : D) (tbs : List (List (Str × Bool))) (S : Store) (Q : Post) : Prop := ∃ ad dx c ns ds b, x = .exc ad dx c ns ds ∧ G.xa = some (ad, dx, c) ∧ anyTb c tbs = some b ∧ Q (.bl b) S
/-- what an exception of a try's body must meet -/
def exTry (tb : List (Str × Bool)) (s : Addr → Addr → Str → List Str → List D → Env' → Store → Prop) (o : D → Env' → Store → Prop) (d : D) (e : Env') (S : Store) : Prop := match d with
  | .ins c ns ds => match tb.lookup c with
    | some true => ∀ a dx, s a dx c ns ds e S
    | some false => o d e S
    | none => False
  | _ => False
/-- behind a suite that had a name -/
def Dn.off (K : Dn) (i : Nat) : Dn := { nx := fun e S => K.nx (e.set i none) S, rt := K.rt, bk := fun e S => K.bk (e.set i none) S, ct := fun e S => K.ct (e.set i none) S }
/-! instances -/
def insOf (S : Store) : D → Option (Str × List Str × List D)
  | .ins c ns ds => some (c, ns, ds)
  | .ref n => match S[n]? with
    | some (.ins c ns ds) => some (c, ns, ds)
    | _ => none
  | _ => none
def wFld (cs : List Str) (f : Str) (x : D) (S : Store) (Q : Post) : Prop := ∃ c ns ds d, insOf S x = some (c, ns, ds) ∧ cs.contains c = true ∧ (ns.zip ds).lookup f = some d ∧ Q d S
def putN : List Str → Str → List Str
  | [], f => [f]
  | n :: r, f => if n = f then n :: r else n :: putN r f
def putV : List Str → List D → Str → D → List D
  | n :: r, d :: ds, f, y => if n = f then y :: ds else d :: putV r ds f y
  | _, _, _, y => [y]
def wSetF (cs : List Str) (f : Str) (x d : D) (S : Store) (Q : Store → Prop) : Prop := ∃ n c ns ds, x = .ref n ∧ S[n]? = some (.ins c ns ds) ∧ cs.contains c = true ∧ ns.length < 900 ∧ Q (S.set n (.ins c (putN ns f) (putV ns ds f d)))
mutual
def wE : E → Gam → Env' → Store → Post → Prop
  | .var i, G, e, S, Q => match e[i]? with
    | some (some d) => Q d S
    | _ => False
  | .cst d, G, _, S, Q => Q d S
  | .glb k, G, _, S, Q => match G.gl[k]? with
    | some d => Q d S
    | none => False
  | .bin m o a b, G, e, S, Q => wE a G e S fun x S1 => wE b G e S1 fun y S2 => wBin m o x y S2 Q
  | .neg a, G, e, S, Q => wE a G e S fun x S1 => wNeg x S1 Q
  | .cmp o a b, G, e, S, Q => wE a G e S fun x S1 => wE b G e S1 fun y S2 => wCmp o x y S2 fun c => Q (.bl c) S2
  | .cmp2 o p a b c, G, e, S, Q => wE a G e S fun x S1 => wE b G e S1 fun y S2 => wCmp o x y S2 fun t => if t = true then wE c G e S2 fun z S3 => wCmp p y z S3 fun t => Q (.bl t) S3 else Q (.bl false) S2
  | .and a b, G, e, S, Q => wE a G e S fun x S1 => wB x fun t => if t = true then wE b G e S1 Q else Q (.bl false) S1
  | .or a b, G, e, S, Q => wE a G e S fun x S1 => wB x fun t => if t = true then Q (.bl true) S1 else wE b G e S1 Q
  | .not a, G, e, S, Q => wE a G e S fun x S1 => wB x fun t => Q (.bl (!t)) S1
  | .ite c a b, G, e, S, Q => wE c G e S fun x S1 => wB x fun t => if t = true then wE a G e S1 Q else wE b G e S1 Q
  | .tup es, G, e, S, Q => wEs es G e S fun ds S1 => ds.length ≤ sizeLine ∧ Q (.tup ds) S1
  | .lst m es, G, e, S, Q => wEs es G e S fun ds S1 => ds.length ≤ sizeLine ∧ mkL m ds S1 Q
  | .ix a i, G, e, S, Q => wE a G e S fun x S1 => wE i G e S1 fun y S2 => wIx x y S2 Q
  | .sl m a lo hi, G, e, S, Q => wE a G e S fun x S1 => wO lo G e S1 fun l S2 => wO hi G e S2 fun h S3 => wSl m x l h S3 Q
  | .rv m a, G, e, S, Q => wE a G e S fun x S1 => wRv m x S1 Q
  | .bi f es, G, e, S, Q => wEs es G e S fun ds S1 => wBi f ds S1 Q
  | .bl m f es, G, e, S, Q => wEs es G e S fun ds S1 => wBl m f ds S1 Q
  | .call k es, G, e, S, Q => wEs es G e S fun ds S1 => wCall G k ds e S1 Q
  | .callK k pm es ks, G, e, S, Q => wEs es G e S fun ds S1 => wEs ks G e S1 fun zs S2 => wCall G k (pmut pm (ds ++ zs)) e S2 Q
  | .callS k n a, G, e, S, Q => wE a G e S fun x S1 => ∃ ds, valOf x = some ds ∧ ds.length = n ∧ wCall G k ds e S1 Q
  | .me f o es, G, e, S, Q => wE o G e S fun x S1 => (lsOf S1 x).isSome = true ∧ wEs es G e S1 fun ds S2 => wMe f x ds S2 Q
  | .lc m elt t it c vs, G, e, S, Q => wIt it G e S fun src S1 => src.items.length ≤ sizeLine ∧ ∃ W : Nat → List D → Store → Prop, W 0 [] S1 ∧ ∀ i acc S2, W i acc S2 →
      src.ok S2 ∧ i ≤ src.items.length ∧ (i = src.items.length → mkL m acc S2 Q) ∧
      ∀ x, src.items[i]? = some x → wTg t G.nox x (wipeD e vs) S2 fun e3 S3 => wT c G.nox e3 S3 fun b S4 => if b = true then wE elt G.nox e3 S4 fun d S5 => W (i + 1) (acc ++ [d]) S5 else W (i + 1) acc S4
  | .lr m es, G, e, S, Q => wEs es G e S fun ds S1 => wLr m ds S1 Q
  | .mxd a d, G, e, S, Q => wE a G e S fun x S1 => wE d G e S1 fun y S2 => wMxd x y S2 Q
  | .isi a T, G, e, S, Q => wE a G e S fun x S1 => wIsi T x S1 Q
  | .xat a f, G, e, S, Q => wE a G e S fun x S1 => wXat G x f S1 Q
  | .xis a tb, G, e, S, Q => wE a G e S fun x S1 => wXis G x tb S1 Q
  | .xit a tbs, G, e, S, Q => wE a G e S fun x S1 => wXit G x tbs S1 Q
  | .dsp m ks es, G, e, S, Q => wEs es G e S fun ds S1 => mkDc m ks ds S1 Q
  | .kin neg a _ zs, G, e, S, Q => wE a G e S fun x S1 => ∃ z, x = .str z ∧ Q (.bl (xor neg (zs.contains z))) S1
  | .sm f o es, G, e, S, Q => wE o G e S fun x S1 => (∃ a, x = .str a) ∧ wEs es G e S1 fun ds S2 => wSm f x ds S2 Q
  | .fs es, G, e, S, Q => wFs es Str.empty G e S fun y S1 => Q (.str y) S1
  | .fld a f cs, G, e, S, Q => wE a G e S fun x S1 => wFld cs f x S1 Q
  | .mth tb m o es ks, G, e, S, Q => wE o G e S fun x S1 => ∃ c ns vs k pm, insOf S1 x = some (c, ns, vs) ∧ tb.lookup c = some (k, pm) ∧ ns.contains m = false ∧ wEs es G e S1 fun ds S2 => wEs ks G e S2 fun zs S3 => wCall G k (pmut pm (x :: (ds ++ zs))) e S3 Q
  | .mkc k c pm es ks, G, e, S, Q => wEs es G e S fun ds S1 => wEs ks G e S1 fun zs S2 => wCall G k (pmut pm (.ref S2.length :: (ds ++ zs))) e (S2 ++ [.ins c [] []]) fun d S' => d = .non ∧ Q (.ref S2.length) S'
  | .dvl m o, G, e, S, Q => wE o G e S fun x S1 => ∃ ks ds, dcOf S1 x = some (ks, ds) ∧ mkL m ds S1 Q
  | .lcd m kd i elt t c vs, G, e, S, Q => match e[i]? with
    | some (some x) => ∃ ks ds, x = .dct ks ds ∧ (dItems kd ks ds).length ≤ sizeLine ∧ ∃ W : Nat → List D → Store → Prop, W 0 [] S ∧ ∀ j acc S2, W j acc S2 →
      True ∧ j ≤ (dItems kd ks ds).length ∧ (j = (dItems kd ks ds).length → mkL m acc S2 Q) ∧
      ∀ x, (dItems kd ks ds)[j]? = some x → wTg t G.nox x (wipeD e vs) S2 fun e3 S3 => wT c G.nox e3 S3 fun b S4 => if b = true then wE elt G.nox e3 S4 fun d S5 => W (j + 1) (acc ++ [d]) S5 else W (j + 1) acc S4
    | _ => False
/-- a test, or none -/
def wT : Oe → Gam → Env' → Store → (Bool → Store → Prop) → Prop
  | .no, G, _, S, Q => Q true S
  | .so c, G, e, S, Q => wE c G e S fun x S1 => wB x fun b => Q b S1
def wEs : Es → Gam → Env' → Store → (List D → Store → Prop) → Prop
  | .nil, G, _, S, Q => Q [] S
  | .cons a r, G, e, S, Q => wE a G e S fun x S1 => wEs r G e S1 fun xs S2 => Q (x :: xs) S2
/-- the parts of f'..' one behind the other -/
def wFs : Es → Str → Gam → Env' → Store → (Str → Store → Prop) → Prop
  | .nil, acc, G, _, S, Q => Q acc S
  | .cons a r, acc, G, e, S, Q => wE a G e S fun x S1 => ∃ y, fmtD x = some y ∧ (acc ++ y).length ≤ sizeLine ∧ wFs r (acc ++ y) G e S1 Q
/-- a part of a slice -/
def wO : Oe → Gam → Env' → Store → (Option Int → Store → Prop) → Prop
  | .no, G, _, S, Q => Q none S
  | .so c, G, e, S, Q => wE c G e S fun x S1 => match x with
    | .int i => Q (some i) S1
    | _ => False
def wIt : It → Gam → Env' → Store → (Src → Store → Prop) → Prop
  | .seq a, G, e, S, Q => wE a G e S fun x S1 => srcOf x S1 fun c => Q c S1
  | .rng es, G, e, S, Q => wEs es G e S fun ds S1 => wRng ds fun c => Q c S1
  | .enu a, G, e, S, Q => wE a G e S fun x S1 => ∃ xs, valOf x = some xs ∧ Q ⟨enuD xs, none⟩ S1
  | .zip a b, G, e, S, Q => wE a G e S fun x S1 => wE b G e S1 fun y S2 => ∃ xs ys, valOf x = some xs ∧ valOf y = some ys ∧ Q ⟨zip2D xs ys, none⟩ S2
  | .zip3 a b c, G, e, S, Q => wE a G e S fun x S1 => wE b G e S1 fun y S2 => wE c G e S2 fun z S3 => ∃ xs ys zs, valOf x = some xs ∧ valOf y = some ys ∧ valOf z = some zs ∧ Q ⟨zip3D xs ys zs, none⟩ S3
  | .zipn es, G, e, S, Q => wEs es G e S fun ds S1 => wZn ds fun c => Q c S1
def wTg : Tg → Gam → D → Env' → Store → (Env' → Store → Prop) → Prop
  | .nm i, G, d, e, S, Q => Q (e.set i (some d)) S
  | .tp ts, G, d, e, S, Q => match d with
    | .tup ds => ds.length = tgsLen ts ∧ wTgs ts G ds e S Q
    | _ => False
  | .ix o i, G, d, e, S, Q => wE o G e S fun x S1 => wE i G e S1 fun y S2 => wSet x y d S2 fun S3 => Q e S3
  | .at_ o f cs, G, d, e, S, Q => wE o G e S fun x S1 => wSetF cs f x d S1 fun S2 => Q e S2
def wTgs : Tgs → Gam → List D → Env' → Store → (Env' → Store → Prop) → Prop
  | .nil, G, ds, e, S, Q => ds = [] ∧ Q e S
  | .cons t ts, G, ds, e, S, Q => match ds with
    | d :: r => wTg t G d e S fun e1 S1 => wTgs ts G r e1 S1 Q
    | [] => False
end
def wFor (src : Src) (tg : D → Env' → Store → (Env' → Store → Prop) → Prop) (body : Dn → Env' → Store → Prop) (K : Dn) (e : Env') (S : Store) : Prop :=
  ∃ W : Nat → Env' → Store → Prop, W 0 e S ∧ ∀ i e S, W i e S → src.ok S ∧ i ≤ src.items.length ∧ (i = src.items.length → K.nx e S) ∧
    ∀ x, src.items[i]? = some x → tg x e S fun e2 S2 => body { nx := W (i + 1), ct := W (i + 1), bk := K.nx, rt := K.rt } e2 S2
def wWhile (c : Env' → Store → Post → Prop) (body : Dn → Env' → Store → Prop) (K : Dn) (e : Env') (S : Store) : Prop :=
  ∃ W : Nat → Env' → Store → Prop, (∃ m, W m e S) ∧ ∀ m e S, W m e S → c e S fun x S1 => wB x fun b =>
    if b = true then body { nx := fun e' S' => ∃ m', m' < m ∧ W m' e' S', ct := fun e' S' => ∃ m', m' < m ∧ W m' e' S', bk := K.nx, rt := K.rt } e S1 else K.nx e S1
mutual
def wS : St' → Gam → Dn → Env' → Store → Prop
  | .asg t a, G, K, e, S => wE a G e S fun x S1 => wTg t G x e S1 K.nx
  | .par ts es, G, K, e, S => wEs es G e S fun ds S1 => ds.length ≤ sizeLine ∧ wTgs ts G ds e S1 K.nx
  | .aug i o a, G, K, e, S => match e[i]? with
    | some (some x) => wE a G e S fun y S1 => wAug o x y fun d => K.nx (e.set i (some d)) S1
    | _ => False
  | .ex a, G, K, e, S => wE a G e S fun _ S1 => K.nx e S1
  | .ret a, G, K, e, S => wE a G e S K.rt
  | .retN, _, K, _, S => K.rt .non S
  | .ite c a b, G, K, e, S => wE c G e S fun x S1 => wB x fun t => if t = true then wSs a G K e S1 else wSs b G K e S1
  | .whl c b, G, K, e, S => wWhile (wE c G) (wSs b G) K e S
  | .for_ t it b, G, K, e, S => wIt it G e S fun src S1 => wFor src (wTg t G) (wSs b G) K e S1
  | .pass, _, K, e, S => K.nx e S
  | .brk, _, K, e, S => K.bk e S
  | .cont, _, K, e, S => K.ct e S
  | .raise c ns es, G, K, e, S => wEs es G e S fun ds S1 => ds.length = ns.length ∧ G.ex (.ins c ns ds.reverse) e S1
  | .tryAs tb i b s, G, K, e, S => wSs b (G.tr (exTry tb (fun a dx c ns ds e1 S1 => wSs s (G.cat a dx c) (K.off i) (e1.set i (some (.exc a dx c ns ds))) S1) G.ex)) K e S
  | .tryOn tb b s, G, K, e, S => wSs b (G.tr (exTry tb (fun _ _ _ _ _ e1 S1 => wSs s G.nox K e1 S1) G.ex)) K e S
  | .tryAs2 tb i b s, G, K, e, S => wSs b (G.tr (exTry tb (fun a dx c ns ds e1 S1 => wSs s (G.cat a dx c) (K.off i) (e1.set i (some (.exc a dx c ns ds))) S1) fun _ _ _ => False)) K e S
  | .forD i j b, G, K, e, S => match e[i]? with
    | some (some x) => ∃ ks ds, x = .dct ks ds ∧ wFor ⟨ks.map keyD, none⟩ (fun d e S Q => Q (e.set j (some d)) S) (wSs b G.nox) K e S
    | _ => False
def wSs : Ss → Gam → Dn → Env' → Store → Prop
  | .nil, _, K, e, S => K.nx e S
  | .cons s r, G, K, e, S => wS s G { K with nx := fun e1 S1 => wSs r G K e1 S1 } e S
end
/-! ### when syntax is such code -/
structure Ck where
  N : List Str
  gl : List Str := []
  fn : List (Str × List Str × List (Nat × List Str)) := []
  bt : List Str := []
  im : List (Str × String) := []
  /-- within an except clause's suite -/
  hot : Bool := false
  /-- own exception classes that are made, with their fields; which are subclasses of which -/
  ec : List (Str × List Str) := []
  exm : List (Str × Str × Bool) := []
  /-- dicts of the module: their keys -/
  kd : List (Str × List Str) := []
  /-- classes: their instances' fields -/
  cl : List (Str × List Str) := []
/-- where each parameter finds its value: n positional ones, then the keywords ks -/
def pmOf (n : Nat) (ps ks : List Str) : List Nat := List.range n ++ (ps.drop n).map fun p => n + ks.findIdx (· == p)
/-- the name of a method: its class, its own name -/
def spl (x : Str) : Option (Str × Str) := if x.cps.toList.contains 46 = true then some (⟨(x.cps.toList.takeWhile (· != 46)).toArray⟩, ⟨((x.cps.toList.dropWhile (· != 46)).drop 1).toArray⟩) else none
def csOk (C : Ck) (f : Str) (cs : List Str) : Bool := cs.all fun c => C.cl.any fun p => p.1 == c && p.2.contains f
/-- how arguments are handed over: all by place, or in one of the ways that are known -/
def patOk (n : Nat) (ps ns : List Str) (pats : List (Nat × List Str)) : Bool := (ns.isEmpty && decide (n = ps.length)) || pats.any (fun p => p.1 == n && p.2 == ns)
def mtOk (C : Ck) (m : Str) (n : Nat) (ns : List Str) (tb : List (Str × Nat × List Nat)) : Bool := tb.all fun p => match C.fn[p.2.1]? with
  | some (x, ps, pats) => spl x == some (p.1, m) && patOk (n + 1) ps ns pats && decide (p.2.2 = pmOf (n + 1) ps ns)
  | none => false
def tbOk (C : Ck) (x : Str) (tb : List (Str × Bool)) : Bool := !tb.isEmpty && tb.all fun p => C.exm.contains (p.1, x, p.2)
def tbsOk (C : Ck) : List (Str × List (Str × Bool)) → Bool
  | [] => true
  | p :: r => tbOk C p.1 p.2 && tbsOk C r
def isXf (f : Str) : Bool := f == "word" || f == "at" || f == "line"
def isVis (sc : Scope) (x : Str) : Bool := match sc.names.lookup x with
  | some .local => true
  | some .cell => true
  | some .free => true
  | _ => false
def isLoc (sc : Scope) (x : Str) : Bool := match sc.names.lookup x with
  | some .local => true
  | some .cell => true
  | _ => false
def isGl (sc : Scope) (x : Str) : Bool := match sc.names.lookup x with
  | some .globalImplicit => x != "__name__" && x != "__debug__" && (spl x).isNone
  | _ => false
def cstB : D → Const → Bool
  | .non, .none => true
  | .bl b, .bool c => b == c
  | .int i, .int j => i == j
  | .str x, .str y => x == y
  | _, _ => false
def biName : Bi → Str
  | .abs => "abs" | .isqrt => "isqrt" | .max2 => "max" | .min2 => "min" | .int => "int" | .len => "len" | .repr => "repr" | .sum => "sum"
  | .max => "max" | .min => "min" | .maxd => "max" | .max3 => "max" | .mind => "min" | .tuple => "tuple" | .all => "all" | .any => "any" | .bool => "bool" | .str => "str"
def blName : Bl → Str
  | .sorted => "sorted" | .list => "list"
def meName : Me → Str
  | .append => "append" | .pop => "pop" | .extend => "extend" | .index => "index" | .remove => "remove" | .reverse => "reverse" | .clear => "clear" | .insert => "insert"
def smName : Sm → Str
  | .starts => "startswith" | .ends => "endswith" | .upper => "upper" | .join => "join"
/-- an expression that stands as an argument, an index, a receiver -/
def isArg : Expr → Bool
  | .Starred _ _ => false
  | _ => true
def isIx : Expr → Bool
  | .Slice _ _ _ _ => false
  | _ => true
/-- list(o.f()) -/
def lvOf : Expr → Option (Str × Str × Expr × Bool)
  | .Call (.Name x _) [.Call (.Attribute o name apos) [] [] cpos] [] _ => some (x, name, o, apos.endLine == cpos.line)
  | _ => none
/-- a comprehension of one walk -/
def lcOf : Expr → Option (Expr × Expr × Expr × List Expr × Scope)
  | .ListComp elt [⟨t, it, ifs, 0⟩] scope _ => some (elt, t, it, ifs, scope)
  | _ => none
theorem lvOf_some {e : Expr} {x name : Str} {o : Expr} {l : Bool} (h : lvOf e = some (x, name, o, l)) : ∃ p apos cpos pos, e = .Call (.Name x p) [.Call (.Attribute o name apos) [] [] cpos] [] pos ∧ l = (apos.endLine == cpos.line) := by
  unfold lvOf at h
  split at h
  · cases h; exact ⟨_, _, _, _, rfl, rfl⟩
  · cases h
theorem lcOf_some {e elt t it : Expr} {ifs : List Expr} {scope : Scope} (h : lcOf e = some (elt, t, it, ifs, scope)) : ∃ pos, e = .ListComp elt [⟨t, it, ifs, 0⟩] scope pos := by
  unfold lcOf at h
  split at h
  · cases h; exact ⟨_, rfl⟩
  · cases h
def dcNm (C : Ck) (sc : Scope) (i : Nat) (x : Str) : Bool := C.N[i]? == some x && isVis sc x && x != "__debug__" && x != "__classdict__"
/-- a walk over a dict that a name stands for -/
def dcIt (C : Ck) (sc : Scope) (kd i : Nat) (t it : Expr) : Bool := match kd, it with
  | 0, .Name x _ => dcNm C sc i x
  | 1, .Call (.Attribute (.Name x _) n apos) [] [] cpos => n == "values" && apos.endLine == cpos.line && dcNm C sc i x
  | 2, .Call (.Attribute (.Name x _) n apos) [] [] cpos => n == "items" && apos.endLine == cpos.line && dcNm C sc i x && (match t with
    | .Tuple _ _ _ => true
    | _ => false)
  | _, _ => false
def isRecv : Expr → Bool
  | .Call (.Name _ _) [] [] _ => false
  | _ => true
def isSet : Expr → Bool
  | .Set _ _ _ => true
  | _ => false
def isComp : Expr → Bool
  | .ListComp _ _ _ _ => true
  | .SetComp _ _ _ _ => true
  | .DictComp _ _ _ _ _ => true
  | _ => false
/-- what is left of a and b and c behind a -/
def bopRest (op : BoolOp) : List Expr → Pos → Option Expr
  | [], _ => none
  | [x], pos => some (.BoolOp op [x] pos)
  | xs, pos => some (.BoolOp op xs pos)
def kwNames : List Keyword → Option (List Str)
  | [] => some []
  | ⟨some n, _, _⟩ :: r => (kwNames r).map (n :: ·)
  | ⟨none, _, _⟩ :: _ => none
def kwVals : List Keyword → List Expr
  | [] => []
  | ⟨_, v, _⟩ :: r => v :: kwVals r
def hasBt (C : Ck) (x : Str) : Bool := C.bt.any (· == x)
mutual
def tgSl : Tg → List Nat
  | .nm i => [i]
  | .tp ts => tgsSl ts
  | .ix _ _ => []
  | .at_ _ _ _ => []
def tgsSl : Tgs → List Nat
  | .nil => []
  | .cons t ts => tgSl t ++ tgsSl ts
end
mutual
def onlyNm : Tg → Bool
  | .nm _ => true
  | .tp ts => onlyNms ts
  | .ix _ _ => false
  | .at_ _ _ _ => false
def onlyNms : Tgs → Bool
  | .nil => true
  | .cons t ts => onlyNm t && onlyNms ts
end
/-- a walk that wants a target of several names -/
def itTg : It → Expr → Bool
  | .enu _, .Tuple _ _ _ => true
  | .zip _ _, .Tuple _ _ _ => true
  | .zip3 _ _ _, .Tuple _ _ _ => true
  | .zipn _, .Name _ _ => true
  | .seq _, _ => true
  | .rng _, _ => true
  | _, _ => false
/-- written keys -/
def kKs : List Key → List (Option Expr) → Bool
  | [], es => es.isEmpty
  | .inl i :: r, es => match es with
    | some (.Constant (.int j) _ _) :: r' => i == j && kKs r r'
    | _ => false
  | .inr x :: r, es => match es with
    | some (.Constant (.str y) _ _) :: r' => x == y && kKs r r'
    | _ => false
def nodK : List Key → Bool
  | [] => true
  | k :: r => !hasK r k && nodK r
mutual
def kE (C : Ck) (sc : Scope) : E → Expr → Bool
  | .var i, e => match e with
    | .Name x _ => C.N[i]? == some x && isVis sc x && x != "__debug__" && x != "__classdict__"
    | _ => false
  | .cst d, e => match e with
    | .Constant c _ _ => cstB d c
    | _ => false
  | .glb k, e => match e with
    | .Name x _ => C.gl[k]? == some x && isGl sc x
    | _ => false
  | .bin _ o a b, e => match e with
    | .BinOp a' o' b' _ => decide (o = o') && kE C sc a a' && kE C sc b b'
    | _ => false
  | .neg a, e => match e with
    | .UnaryOp .USub a' _ => kE C sc a a'
    | _ => false
  | .cmp o a b, e => match e with
    | .Compare a' [o'] [b'] _ => decide (o = o') && !isSet b' && kE C sc a a' && kE C sc b b'
    | _ => false
  | .cmp2 o p a b c, e => match e with
    | .Compare a' [o', p'] [b', c'] _ => decide (o = o') && decide (p = p') && !isSet b' && !isSet c' && kE C sc a a' && kE C sc b b' && kE C sc c c'
    | _ => false
  | .and a b, e => match e with
    | .BoolOp .And (a' :: b' :: []) _ => kE C sc a a' && kE C sc b b'
    | .BoolOp .And (a' :: b' :: c' :: r) pos => kE C sc a a' && kE C sc b (.BoolOp .And (b' :: c' :: r) pos)
    | _ => false
  | .or a b, e => match e with
    | .BoolOp .Or (a' :: b' :: []) _ => kE C sc a a' && kE C sc b b'
    | .BoolOp .Or (a' :: b' :: c' :: r) pos => kE C sc a a' && kE C sc b (.BoolOp .Or (b' :: c' :: r) pos)
    | _ => false
  | .not a, e => match e with
    | .UnaryOp .Not a' _ => kE C sc a a'
    | _ => false
  | .ite c a b, e => match e with
    | .IfExp c' a' b' _ => kE C sc c c' && kE C sc a a' && kE C sc b b'
    | _ => false
  | .tup es, e => match e with
    | .Tuple es' _ _ => kEs C sc es es'
    | _ => false
  | .lst _ es, e => match e with
    | .List es' _ => kEs C sc es es'
    | _ => false
  | .ix a i, e => match e with
    | .Subscript a' i' _ => isIx i' && kE C sc a a' && kE C sc i i'
    | _ => false
  | .sl _ a lo hi, e => match e with
    | .Subscript a' (.Slice lo' hi' none _) _ => kE C sc a a' && kO C sc lo lo' && kO C sc hi hi'
    | _ => false
  | .rv _ a, e => match e with
    | .Subscript a' (.Slice none none (some (.UnaryOp .USub (.Constant (.int 1) _ _) _)) _) _ => kE C sc a a'
    | _ => false
  | .bi f es, e => match e with
    | .Call (.Name x _) (e' :: es') [] _ => x == biName f && isGl sc x && (if f = .isqrt then C.im.lookup x == some "math.isqrt" else hasBt C x) && kEs C sc es (e' :: es') && !C.hot
    | _ => false
  | .bl _ f es, e => match e with
    | .Call (.Name x _) (e' :: es') [] _ => x == blName f && isGl sc x && hasBt C x && kEs C sc es (e' :: es')
    | _ => false
  | .call k es, e => match e with
    | .Call (.Name x _) es' [] _ => isGl sc x && (match C.fn[k]? with
      | some (y, ps, _) => x == y && decide (es'.length = ps.length)
      | none => false) && kEs C sc es es' && !C.hot
    | _ => false
  | .callK k pm es ks, e => match e with
    | .Call (.Name x _) es' (kw :: kws) _ => isGl sc x && (match C.fn[k]?, kwNames (kw :: kws) with
      | some (y, ps, pats), some ns => x == y && pats.any (fun p => p.1 == es'.length && p.2 == ns) && decide (pm = pmOf es'.length ps ns)
      | _, _ => false) && kEs C sc es es' && kEs C sc ks (kwVals (kw :: kws)) && !C.hot
    | _ => false
  | .callS k n a, e => match e with
    | .Call (.Name x _) [.Starred a' _] [] _ => isGl sc x && (match C.fn[k]? with
      | some (y, ps, _) => x == y && decide (n = ps.length)
      | none => false) && kE C sc a a' && !C.hot
    | _ => false
  | .me f o es, e => match e with
    | .Call (.Attribute o' name apos) es' [] cpos => name == meName f && apos.endLine == cpos.line && isRecv o' && decide (es'.length < 20) && kE C sc o o' && kEs C sc es es'
    | _ => false
  | .lc _ elt t it c vs, e => match e with
    | .ListComp elt' [⟨t', it', ifs', 0⟩] scope _ => blkC C.N sc scope (vs.map fun i => (C.N.getD i "", i)) && !isSet it' && kIt C sc it it' && onlyNm t && (tgSl t).all (vs.contains ·) && kTg C scope t t' && kE C scope elt elt' && (match c, ifs' with
      | .no, [] => true
      | .so c, [c'] => kE C scope c c'
      | _, _ => false) && itTg it t' && !C.hot
    | _ => false
  | .dvl _ o, e => match lvOf e with
    | some (x, name, o', l) => x == "list" && isGl sc x && hasBt C x && name == "values" && l && isRecv o' && kE C sc o o' && !C.hot
    | none => false
  | .lcd _ kd i elt t c vs, e => match lcOf e with
    | some (elt', t', it', ifs', scope) => blkC C.N sc scope (vs.map fun i => (C.N.getD i "", i)) && !isSet it' && dcIt C sc kd i t' it' && onlyNm t && (tgSl t).all (vs.contains ·) && kTg C scope t t' && kE C scope elt elt' && (match c, ifs' with
      | .no, [] => true
      | .so c, [c'] => kE C scope c c'
      | _, _ => false) && !C.hot
    | none => false
  | .lr _ es, e => match e with
    | .Call (.Name x _) [.Call (.Name y _) (e' :: es') [] _] [] _ => x == "list" && isGl sc x && hasBt C x && y == "range" && isGl sc y && hasBt C y && decide (es'.length < 2) && kEs C sc es (e' :: es') && !C.hot
    | _ => false
  | .mxd a d, e => match e with
    | .Call (.Name x _) [a'] [⟨some k, d', _⟩] _ => x == "max" && isGl sc x && hasBt C x && k == "default" && isArg a' && kE C sc a a' && kE C sc d d' && !C.hot
    | _ => false
  | .isi a T, e => match e with
    | .Call (.Name x _) [a', .Name y _] [] _ => x == "isinstance" && isGl sc x && hasBt C x && isTy T && y == Str.ofString T && isGl sc y && hasBt C y && isArg a' && kE C sc a a'
    | _ => false
  | .xat a f, e => match e with
    | .Attribute a' g _ => f == g && isXf f && isRecv a' && kE C sc a a'
    | _ => false
  | .xis a tb, e => match e with
    | .Call (.Name x _) [a', .Name y _] [] _ => x == "isinstance" && isGl sc x && hasBt C x && isGl sc y && tbOk C y tb && isArg a' && kE C sc a a'
    | _ => false
  | .xit a tbs, e => match e with
    | .Call (.Name x _) [a', .Tuple [.Name y _, .Name z _] _ _] [] _ => x == "isinstance" && isGl sc x && hasBt C x && isGl sc y && isGl sc z && (match tbs with
      | [t1, t2] => tbOk C y t1 && tbOk C z t2
      | _ => false) && isArg a' && kE C sc a a'
    | _ => false
  | .dsp _ ks es, e => match e with
    | .Dict keys vals _ => kKs ks keys && nodK ks && decide (ks.length ≤ 15) && decide (keys.length = vals.length) && kEs C sc es vals
    | _ => false
  | .kin neg a x zs, e => match e with
    | .Compare a' [o] [.Name y _] _ => x == y && isGl sc y && C.kd.lookup x == some zs && decide (o = if neg then CmpOp.NotIn else CmpOp.In) && kE C sc a a'
    | _ => false
  | .sm f o es, e => match e with
    | .Call (.Attribute o' name apos) es' [] cpos => name == smName f && apos.endLine == cpos.line && isRecv o' && decide (es'.length < 20) && kE C sc o o' && kEs C sc es es'
    | _ => false
  | .fs es, e => match e with
    | .JoinedStr (v1 :: v2 :: r) _ => kFs C sc es (v1 :: v2 :: r)
    | _ => false
  | .fld a f cs, e => match e with
    | .Attribute a' g _ => f == g && csOk C f cs && isRecv a' && kE C sc a a'
    | _ => false
  | .mth tb m o es ks, e => match e with
    | .Call (.Attribute o' name apos) es' kws pos => name == m && m != "__init__" && apos.endLine == pos.line && isRecv o' && decide (es'.length < 20) && decide (kws.length < 8) && (match kwNames kws with
      | some ns => mtOk C m es'.length ns tb
      | none => false) && kE C sc o o' && kEs C sc es es' && kEs C sc ks (kwVals kws) && !C.hot
    | _ => false
  | .mkc k c pm es ks, e => match e with
    | .Call (.Name x _) es' kws _ => x == c && isGl sc x && (match C.fn[k]?, kwNames kws with
      | some (y, ps, pats), some ns => spl y == some (c, ("__init__" : Str)) && patOk (es'.length + 1) ps ns pats && decide (pm = pmOf (es'.length + 1) ps ns)
      | _, _ => false) && kEs C sc es es' && kEs C sc ks (kwVals kws) && !C.hot
    | _ => false
def kEs (C : Ck) (sc : Scope) : Es → List Expr → Bool
  | .nil, es => es.isEmpty
  | .cons a r, es => match es with
    | a' :: r' => isArg a' && kE C sc a a' && kEs C sc r r'
    | [] => false
def kFs (C : Ck) (sc : Scope) : Es → List Expr → Bool
  | .nil, es => es.isEmpty
  | .cons a r, es => match es with
    | .FormattedValue a' cv none _ :: r' => decide (cv = -1) && kE C sc a a' && kFs C sc r r'
    | .Constant (.str y) k p :: r' => kE C sc a (.Constant (.str y) k p) && kFs C sc r r'
    | _ => false
def kO (C : Ck) (sc : Scope) : Oe → Option Expr → Bool
  | .no, e => e.isNone
  | .so a, e => match e with
    | some a' => kE C sc a a'
    | none => false
def kIt (C : Ck) (sc : Scope) : It → Expr → Bool
  | .seq a, e => kE C sc a e
  | .rng es, e => match e with
    | .Call (.Name x _) es' [] _ => x == "range" && isGl sc x && hasBt C x && decide (es'.length < 3) && kEs C sc es es'
    | _ => false
  | .enu a, e => match e with
    | .Call (.Name x _) [a'] [] _ => x == "enumerate" && isGl sc x && hasBt C x && isArg a' && kE C sc a a'
    | _ => false
  | .zip a b, e => match e with
    | .Call (.Name x _) [a', b'] [] _ => x == "zip" && isGl sc x && hasBt C x && isArg a' && isArg b' && kE C sc a a' && kE C sc b b'
    | _ => false
  | .zip3 a b c, e => match e with
    | .Call (.Name x _) [a', b', c'] [] _ => x == "zip" && isGl sc x && hasBt C x && isArg a' && isArg b' && isArg c' && kE C sc a a' && kE C sc b b' && kE C sc c c'
    | _ => false
  | .zipn es, e => match e with
    | .Call (.Name x _) es' [] _ => x == "zip" && isGl sc x && hasBt C x && (decide (es'.length = 2) || decide (es'.length = 4)) && kEs C sc es es'
    | _ => false
def kTg (C : Ck) (sc : Scope) : Tg → Expr → Bool
  | .nm i, e => match e with
    | .Name x _ => C.N[i]? == some x && isLoc sc x
    | _ => false
  | .tp ts, e => match e with
    | .Tuple ts' _ _ => kTgs C sc ts ts' && !C.hot
    | _ => false
  | .ix o i, e => match e with
    | .Subscript o' i' _ => isIx i' && kE C sc o o' && kE C sc i i'
    | _ => false
  | .at_ o f cs, e => match e with
    | .Attribute o' g _ => f == g && csOk C f cs && kE C sc o o'
    | _ => false
def kTgs (C : Ck) (sc : Scope) : Tgs → List Expr → Bool
  | .nil, es => es.isEmpty
  | .cons a r, es => match es with
    | a' :: r' => isArg a' && kTg C sc a a' && kTgs C sc r r'
    | [] => false
end
/-- a pair of targets' stores: in which way they go (none: not known) -/
def isStar : Expr → Bool
  | .Starred _ _ => true
  | _ => false
def swNames (sc : Scope) (line : Nat) (ts : List Expr) : List Str := ts.filterMap fun
  | .Name id pos => if sc.names.lookup id == some .local && pos.line == line then some id else none
  | _ => none
def swB (sc : Scope) (ts vs : List Expr) : Option (Option (List Str)) :=
  if (!(ts.length == 2 || ts.length == 3) || vs.length != ts.length) = true then some none
  else if vs.any isStar = true then some none
  else if ((swNames sc ((ts.head?.map (·.pos.line)).getD 0) ts).length != ts.length || (swNames sc ((ts.head?.map (·.pos.line)).getD 0) ts).eraseDups.length != (swNames sc ((ts.head?.map (·.pos.line)).getD 0) ts).length) = true then some none
  else if vs.all (foldedForSure 8) = true then some none
  else if vs.all (constantsAlone 8) = true then none
  else some (some (swNames sc ((ts.head?.map (·.pos.line)).getD 0) ts))
def isTup : Expr → Bool
  | .Tuple _ _ _ => true
  | _ => false
def isLcd : E → Bool
  | .lcd _ _ _ _ _ _ _ => true
  | _ => false
def isLstE : Expr → Bool
  | .List _ _ => true
  | _ => false
mutual
def kS (C : Ck) (sc : Scope) : St' → Stmt → Bool
  | .asg t a, s => match s with
    | .Assign [t'] a' _ => isArg t' && !(isTup t' && isTup a') && !isLstE t' && kTg C sc t t' && !isLcd a && kE C sc a a'
    | _ => false
  | .par ts es, s => match s with
    | .Assign [.Tuple ts' _ _] (.Tuple es' _ _) _ => !C.hot && kTgs C sc ts ts' && kEs C sc es es' && decide (ts'.length = es'.length) && (match swB sc ts' es' with
      | some none => true
      | some (some _) => (match ts, ts' with
        | .cons (.nm i) (.cons (.nm j) .nil), [.Name x _, .Name y _] => decide (i ≠ j) && sc.names.lookup x == some .local && sc.names.lookup y == some .local
        | .cons (.nm i) (.cons (.nm j) (.cons (.nm k) .nil)), [.Name x _, .Name y _, .Name z _] => decide (i ≠ j) && decide (i ≠ k) && decide (j ≠ k) && sc.names.lookup x == some .local && sc.names.lookup y == some .local && sc.names.lookup z == some .local
        | _, _ => false)
      | none => false)
    | _ => false
  | .aug i o a, s => match s with
    | .AugAssign (.Name x _) o' a' _ => decide (o = o') && C.N[i]? == some x && isLoc sc x && kE C sc a a'
    | _ => false
  | .ex a, s => match s with
    | .Expr a' _ => !isComp a' && kE C sc a a'
    | _ => false
  | .ret a, s => match s with
    | .Return (some a') _ => kE C sc a a'
    | _ => false
  | .retN, s => match s with
    | .Return none _ => true
    | _ => false
  | .ite c a b, s => match s with
    | .If c' a' b' _ => kE C sc c c' && kSs C sc a a' && kSs C sc b b'
    | _ => false
  | .whl c b, s => match s with
    | .While c' b' [] _ => kE C sc c c' && kSs C sc b b' && !C.hot
    | _ => false
  | .for_ t it b, s => match s with
    | .For t' it' b' [] _ => !isSet it' && kTg C sc t t' && kIt C sc it it' && itTg it t' && kSs C sc b b' && !C.hot
    | _ => false
  | .pass, s => match s with
    | .Pass _ => true
    | _ => false
  | .brk, s => match s with
    | .Break _ => true
    | _ => false
  | .cont, s => match s with
    | .Continue _ => true
    | _ => false
  | .raise c ns es, s => match s with
    | .Raise (some (.Call (.Name x _) (e' :: es') [] _)) none _ => x == c && isGl sc x && C.ec.contains (c, ns) && decide ((e' :: es').length = ns.length) && kEs C sc es (e' :: es') && !C.hot
    | _ => false
  | .tryAs tb i b s, st => match st with
    | .Try b' [.ExceptHandler (some (.Name x _)) (some n) (s0' :: s') _] [] [] _ => isGl sc x && C.N[i]? == some n && sc.names.lookup n == some .local && tbOk C x tb && !C.hot && kSs C sc b b' && kSs { C with hot := true } sc s (s0' :: s')
    | _ => false
  | .tryOn tb b s, st => match st with
    | .Try b' [.ExceptHandler (some (.Name x _)) none (s0' :: s') _] [] [] _ => isGl sc x && tbOk C x tb && !C.hot && kSs C sc b b' && kSs { C with hot := true } sc s (s0' :: s')
    | _ => false
  | .tryAs2 tb i b s, st => match st with
    | .Try b' [.ExceptHandler (some (.Name x _)) (some n) (s0' :: s') _, .ExceptHandler (some (.Name y _)) _ _ _] [] [] _ => isGl sc x && isGl sc y && C.N[i]? == some n && sc.names.lookup n == some .local && tbOk C x tb && tb.all (·.2) && !C.hot && kSs C sc b b' && kSs { C with hot := true } sc s (s0' :: s')
    | _ => false
  | .forD i j b, s => match s with
    | .For (.Name t _) (.Name x _) b' [] _ => C.N[i]? == some x && isVis sc x && x != "__debug__" && x != "__classdict__" && C.N[j]? == some t && isLoc sc t && kSs C sc b b' && !C.hot
    | _ => false
def kSs (C : Ck) (sc : Scope) : Ss → List Stmt → Bool
  | .nil, ss => ss.isEmpty
  | .cons a r, ss => match ss with
    | a' :: r' => kS C sc a a' && kSs C sc r r'
    | [] => false
end
theorem kE_var {C : Ck} {sc : Scope} {i : Nat} {e : Expr} (h : kE C sc (.var i) e = true) : True := by
  simp only [kE] at h
  trivial
end M

set_option Elab.async false
set_option maxRecDepth 100000
set_option maxHeartbeats 4000000
/-! MQ: comparing where a dict stands among the data. -/
namespace PySem.SeqAt
open AutoSeq1 (wpAny_loadPart')
open MeetsSeq
theorem mq_str_declines (b : Str) (u : Tok) (l : Addr) (es : Array DictEntry) (n : Nat) (dd : Option Addr) (sl : Array (Option Value)) :
    Meets (Builtin.«str.__eq__» ⟨[.str b u, .ref l], []⟩) (fun _ R s => s.heap.get? l = some { cls := .type "dict", dict := dd, data := .dict es n, slots := sl } ∧ R (.ok (.ret .notImplemented)) s) :=
  .of_wp fun prog w A R s h => by obtain ⟨hp, g, d, tk, os⟩ := s; obtain ⟨hl, h⟩ := h; wp_walk using wpAny_loadPart' hl, wpAny_load hl; exact ⟨_, rfl, h⟩
theorem mq_dict_declines (b : Str) (u : Tok) (l : Addr) (es : Array DictEntry) (n : Nat) (dd : Option Addr) (sl : Array (Option Value)) :
    Meets (Builtin.«dict.__eq__» ⟨[.ref l, .str b u], []⟩) (fun _ R s => s.heap.get? l = some { cls := .type "dict", dict := dd, data := .dict es n, slots := sl } ∧ R (.ok (.ret .notImplemented)) s) :=
  .of_wp fun prog w A R s h => by obtain ⟨hp, g, d, tk, os⟩ := s; obtain ⟨hl, h⟩ := h; have f1 := F.sub_str_dict; wp_walk using wpAny_loadPart' hl, wpAny_load hl; exact ⟨_, rfl, h⟩
section
variable {A : Around} {s : Shared}
theorem mq_rc_str {l : Addr} {es : Array DictEntry} {n : Nat} {dd : Option Addr} {sl : Array (Option Value)} (b : Str) (u : Tok) (ho : s.heap.get? l = some { cls := .type "dict", dict := dd, data := .dict es n, slots := sl }) (hu : A.units < cLine) : RcAt A s (.str b u) (.ref l) false := fun prog w E Q h => by
  exact rc_eq_decline_or (k := false) (typeIs_str s b u) ⟨_, ho, rfl⟩ (by decide) F.sub_dict_str F.slot_str_eq F.slot_dict_eq_refl
    (fun _ hq => call_meets F.slot_str_eq (typeIs_str s b u) F.entry_str_eq (F.args_str_eq_2 _ _) (mq_str_declines b u l es n dd sl) ⟨ho, hq⟩)
    (fun _ hq => call_meets F.slot_dict_eq_refl ⟨_, ho, rfl⟩ F.entry_dict_eq (F.args_dict_eq_2 _ _) (mq_dict_declines b u l es n dd sl) ⟨ho, hq⟩)
    (fun _ hq => wpAny_of_eq (rfl : isSame (.str b u) (.ref l) = pure false) hq) (.inr hu) h
theorem mq_eq_str {l : Addr} {es : Array DictEntry} {n : Nat} {dd : Option Addr} {sl : Array (Option Value)} (b : Str) (u : Tok) (ho : s.heap.get? l = some { cls := .type "dict", dict := dd, data := .dict es n, slots := sl }) (hu : A.units < cLine) : EqAt A s (.str b u) (.ref l) false := fun prog w E Q h => by
  unfold eqBool
  refine wpAny_holding ?_
  refine wpAny_ite_split (fun hab => absurd (eq_of_beq hab) nofun) (fun _ => ?_)
  exact wpAny_bind (mq_rc_str b u ho hu prog w E _ (wpAny_truthy_bool h))
end
end PySem.SeqAt
namespace M
open PySem L2 PyProof.Rows
section
variable {X : Cx}
/-- a tuple and the empty one -/
def rT0 (K : PySem.W.Frag) (f : Bool → Bool) : R2 := fun x y H Q => ∃ a b xs, x = .ref a ∧ y = .ref b ∧ SqT K H a xs ∧ SqT K H b [] ∧ Q (.bl (f xs.isEmpty)) H
theorem t0_all {m n : Nat} (h : n = 0) : ((List.range (min m n)).all (fun _ => true) && m == n) = (m == 0) := by
  subst h; simp
theorem op_eqT0 (hu : X.A.units + 64 < cLine) : OpR X (compareOp .Eq) (rT0 X.K id) := by
  intro pins s σ H x y v u Q I rx ry ⟨a, b, xs, e1, e2, h1, h2, q⟩
  subst e1 e2
  cases rx; cases ry
  obtain ⟨its, r1, p1, _⟩ := I.tuple h1
  obtain ⟨its2, r2, p2, _⟩ := I.tuple h2
  cases r2
  have hl := r1.length
  refine SeqAt.RcAt.tuples (e := fun _ => true) p1 p2 (by omega) (fun j _ h => absurd h (Nat.not_lt_zero _)) X.prog X.w X.xe _ ?_
  rw [show (#[] : Array Value).size = 0 from rfl, t0_all rfl]
  refine ⟨.bl xs.isEmpty, H, I, ?_, q⟩
  have e : (its.toArray.size == 0) = xs.isEmpty := by
    cases xs with
    | nil => cases its with
      | nil => rfl
      | cons _ _ => simp at hl
    | cons _ _ => cases its with
      | nil => simp at hl
      | cons _ _ => rfl
  show Value.bool (its.toArray.size == 0) = Value.bool xs.isEmpty
  rw [e]
theorem op_neT0 (hu : X.A.units + 64 < cLine) : OpR X (compareOp .NotEq) (rT0 X.K (!·)) := by
  intro pins s σ H x y v u Q I rx ry ⟨a, b, xs, e1, e2, h1, h2, q⟩
  subst e1 e2
  cases rx; cases ry
  obtain ⟨its, r1, p1, _⟩ := I.tuple h1
  obtain ⟨its2, r2, p2, _⟩ := I.tuple h2
  cases r2
  have hl := r1.length
  refine SeqAt.RcNeAt.tuples (e := fun _ => true) p1 p2 (by omega) (fun j _ h => absurd h (Nat.not_lt_zero _)) X.prog X.w X.xe _ ?_
  rw [show (#[] : Array Value).size = 0 from rfl, t0_all rfl]
  refine ⟨.bl (!xs.isEmpty), H, I, ?_, q⟩
  have e : (its.toArray.size == 0) = xs.isEmpty := by
    cases xs with
    | nil => cases its with
      | nil => rfl
      | cons _ _ => simp at hl
    | cons _ _ => cases its with
      | nil => simp at hl
      | cons _ _ => rfl
  show Value.bool (!(its.toArray.size == 0)) = Value.bool (!xs.isEmpty)
  rw [e]
/-- a dict in a list of texts -/
def rDI (K : PySem.W.Frag) (b : Bool) : R2 := fun x y H Q => ∃ a kvs p vs, x = .ref a ∧ Rd H a (.dK kvs) ∧ y = .ref p ∧ SqL K H p vs ∧ (∀ v ∈ vs, ∃ z, v = .str z) ∧ Q (.bl b) H
theorem vals_strs {vs : List V} {us : List Value} (r : Vals vs us) (h : ∀ v ∈ vs, ∃ z, v = V.str z) : ∀ u ∈ us, ∃ z t, u = Value.str z t := by
  induction r with
  | nil => intro u hu; cases hu
  | cons h1 _ ih =>
    intro u hu
    rcases List.mem_cons.mp hu with e | e
    · subst e
      obtain ⟨z, rfl⟩ := h _ List.mem_cons_self
      obtain ⟨t, rfl⟩ := h1
      exact ⟨z, t, rfl⟩
    · exact ih (fun v hv => h v (List.mem_cons_of_mem _ hv)) u e
theorem dict_obj {a : Addr} {kvs : List (Key × V)} {pins : List (Addr × Obj)} {σ : L2.St} {H : Hp} {s : Shared} (I : Inv X pins σ H s) (h : Rd H a (.dK kvs)) : ∃ dd es n sl, s.heap.get? a = some { cls := .type "dict", dict := dd, data := .dict es n, slots := sl } := by
  obtain ⟨_, _, vs, _, o, es, ep, ho, ⟨c, d, sl⟩, hd, _⟩ := dk_rd I.hok h
  obtain ⟨oc, od, dat, osl⟩ := o
  simp only at c hd
  subst c hd
  exact ⟨_, _, _, _, ho⟩
theorem op_inDI (hu : X.A.units + 65 < cLine) : OpR X (compareOp .In) (rDI X.K false) := by
  intro pins s σ H x y v u Q I rx ry ⟨a, kvs, p, vs, e1, hd, e2, hl, hs, q⟩
  subst e1 e2
  cases rx; cases ry
  obtain ⟨its, r1, p1, _⟩ := I.list hl
  obtain ⟨dd, es, n, sl, ho⟩ := dict_obj I hd
  have hstr := vals_strs r1 hs
  refine SeqAt.in_listAt (fun _ => false) p1.isList (fun y hy => ?_) ?_
  · obtain ⟨z, t, rfl⟩ := hstr y (by simpa using hy)
    exact SeqAt.mq_eq_str z t ho (by show X.A.units + 1 < cLine; omega)
  · rw [show (its.toArray.any fun _ => false) = false by simp]
    exact ⟨.bl false, H, I, rfl, q⟩
theorem op_notInDI (hu : X.A.units + 65 < cLine) : OpR X (compareOp .NotIn) (rDI X.K true) := by
  intro pins s σ H x y v u Q I rx ry ⟨a, kvs, p, vs, e1, hd, e2, hl, hs, q⟩
  subst e1 e2
  cases rx; cases ry
  obtain ⟨its, r1, p1, _⟩ := I.list hl
  obtain ⟨dd, es, n, sl, ho⟩ := dict_obj I hd
  have hstr := vals_strs r1 hs
  refine SeqAt.notIn_listAt (fun _ => false) p1.isList (fun y hy => ?_) ?_
  · obtain ⟨z, t, rfl⟩ := hstr y (by simpa using hy)
    exact SeqAt.mq_eq_str z t ho (by show X.A.units + 1 < cLine; omega)
  · rw [show (its.toArray.any fun _ => false) = false by simp]
    exact ⟨.bl true, H, I, rfl, q⟩
end
end M

set_option Elab.async false
set_option maxRecDepth 100000
set_option maxHeartbeats 4000000
/-! M3: operations on values, over the hand layer. -/
namespace M
open PySem L2 PyProof.Rows

/-- what follows: of the data and store, and of the value and heap -/
def Fn (B : Bk) (r : Rg) (H : Hp) (F : Post) (Q : VK) : Prop := ∀ d S' r' H' v, F d S' → Ex r H r' H' → RS B r' S' H' → RV B r' H' d v → Q v H'
/-- .. where nothing but a store is told -/
def FnS (B : Bk) (r : Rg) (H : Hp) (F : Store → Prop) (Q : Hp → Prop) : Prop := ∀ S' r' H', F S' → Ex r H r' H' → RS B r' S' H' → Q H'
section
variable {B : Bk} {r r' : Rg} {H H' : Hp} {F : Post} {Q : VK} {S S' : Store} {x y d : D} {v u : V} {ds es : List D} {vs us : List V}
theorem Fn.trans (e : Ex r H r' H') (f : Fn B r H F Q) : Fn B r' H' F Q := fun d S2 r2 H2 v h e2 s2 hv => f d S2 r2 H2 v h (e.trans e2) s2 hv
/-- nothing has changed -/
theorem Fn.here (f : Fn B r H F Q) (s : RS B r S H) (h : F d S) (hv : RV B r H d v) : Q v H := f d S r H v h .refl s hv
theorem Fn.int (f : Fn B r H F Q) (s : RS B r S H) {i : Int} (h : F (.int i) S) : Q (.int i) H := f.here s h (.int i)
theorem Fn.bl (f : Fn B r H F Q) (s : RS B r S H) {i : Bool} (h : F (.bl i) S) : Q (.bl i) H := f.here s h (.bl i)
theorem Fn.str (f : Fn B r H F Q) (s : RS B r S H) {i : Str} (h : F (.str i) S) : Q (.str i) H := f.here s h (.str i)
/-- a new tuple -/
theorem Fn.tup (f : Fn B r H F Q) (s : RS B r S H) (h : F (.tup ds) S) (hs : RVs B r H ds vs) : ∀ p, H p = none → Q (.ref p) (upd H p (.tup vs)) := fun p np =>
  f _ S r _ _ h (.new np) (s.new np) (.tup (s.free np) (.inl upd_same) (hs.mono (.new np)))
/-- a new list -/
theorem Fn.mk (f : Fn B r H F Q) (s : RS B r S H) {m : Bool} (h : mkL m ds S F) (hs : RVs B r H ds vs) : ∀ p, H p = none → Q (.ref p) (upd H p (.lst vs)) := fun p np => by
  cases m with
  | false => exact f _ S r _ _ h (.new np) (s.new np) (.lst (s.free np) upd_same (hs.mono (.new np)))
  | true => exact f _ _ _ _ _ h (.cell np) (s.push np hs) (.ref (by show (r.c ++ [p])[S.length]? = some p; rw [← s.len]; simp))
theorem lsM_at (s : RS B r S H) (h : lsM S x = some ds) (hx : RV B r H x v) : ∃ a vs, v = .ref a ∧ H a = some (.lst vs) ∧ RVs B r H ds vs := by
  cases hx with
  | ref hr =>
    rename_i n a
    simp only [lsM] at h
    cases q : S[n]? with
    | none => rw [q] at h; cases h
    | some c =>
      rw [q] at h
      have k := s.at_ n c a q hr
      cases k with
      | lst h1 h2 => cases h; exact ⟨a, _, rfl, h1, h2⟩
      | ins _ _ _ _ => cases h
      | dct _ _ _ => cases h
      | dctL _ _ _ => cases h
  | lst n hr hs => cases h; exact ⟨_, _, rfl, hr, hs⟩
  | non => cases h
  | bl _ => cases h
  | int _ => cases h
  | str _ => cases h
  | ty _ => cases h
  | tup _ _ _ => cases h
  | tupK _ _ => cases h
  | rol _ _ _ => cases h
  | rolK _ _ => cases h
  | ins _ _ _ _ _ => cases h
  | exc _ _ _ _ _ => cases h
  | dct _ _ _ _ => cases h
theorem lsOf_at (s : RS B r S H) (h : lsOf S x = some ds) (hx : RV B r H x v) : ∃ a vs, v = .ref a ∧ SqL B.K H a vs ∧ RVs B r H ds vs := by
  have go : lsM S x = some ds → ∃ a vs, v = .ref a ∧ SqL B.K H a vs ∧ RVs B r H ds vs := fun h =>
    let ⟨a, vs, e, k, hs⟩ := lsM_at s h hx
    ⟨a, vs, e, .of k, hs⟩
  cases hx with
  | rol n hr hs => cases h; exact ⟨_, _, rfl, .inl hr, hs⟩
  | rolK hr hs => cases h; exact ⟨_, _, rfl, hr H, hs⟩
  | non => exact go h
  | bl _ => exact go h
  | int _ => exact go h
  | str _ => exact go h
  | ty _ => exact go h
  | ref _ => exact go h
  | tup _ _ _ => exact go h
  | tupK _ _ => exact go h
  | lst _ _ _ => exact go h
  | ins _ _ _ _ _ => exact go h
  | exc _ _ _ _ _ => exact go h
  | dct _ _ _ _ => exact go h
theorem tup_at (hx : RV B r H (.tup ds) v) : ∃ a vs, v = .ref a ∧ SqT B.K H a vs ∧ RVs B r H ds vs := by
  cases hx with
  | tup n hr hs => exact ⟨_, _, rfl, .inl hr, hs⟩
  | tupK hr hs => exact ⟨_, _, rfl, hr H, hs⟩
theorem sqOf_at (s : RS B r S H) (h : sqOf S x = some ds) (hx : RV B r H x v) : ∃ a vs, v = .ref a ∧ (SqL B.K H a vs ∨ SqT B.K H a vs) ∧ RVs B r H ds vs := by
  have go : lsOf S x = some ds → ∃ a vs, v = .ref a ∧ (SqL B.K H a vs ∨ SqT B.K H a vs) ∧ RVs B r H ds vs := fun h =>
    let ⟨a, vs, e, k, hs⟩ := lsOf_at s h hx
    ⟨a, vs, e, .inl k, hs⟩
  cases x with
  | tup xs => cases h; obtain ⟨a, vs, e, k, hs⟩ := tup_at hx; exact ⟨a, vs, e, .inr k, hs⟩
  | non => exact go h
  | bl _ => exact go h
  | int _ => exact go h
  | str _ => exact go h
  | ty _ => exact go h
  | ref _ => exact go h
  | lst _ => exact go h
  | rol _ => exact go h
  | ins _ _ _ => exact go h
  | dct _ _ => exact go h
  | exc _ _ _ _ _ => exact go h
/-- a dict -/
theorem dcOf_at {ks : List Key} (s : RS B r S H) (h : dcOf S x = some (ks, ds)) (hx : RV B r H x v) : ∃ a vs, v = .ref a ∧ ks.length = ds.length ∧ Rd H a (.dK (ks.zip vs)) ∧ RVs B r H ds vs := by
  cases x with
  | dct k2 d2 =>
    cases h
    cases hx with
    | dct n l hr hs => exact ⟨_, _, rfl, l, hr, hs⟩
  | ref n =>
    cases hx with
    | ref hr =>
      rename_i a
      simp only [dcOf] at h
      cases q : S[n]? with
      | none => rw [q] at h; cases h
      | some c =>
        rw [q] at h
        have k := s.at_ n c a q hr
        cases k with
        | lst _ _ => cases h
        | ins _ _ _ _ => cases h
        | dct l h1 h2 => cases h; exact ⟨a, _, rfl, l, .inl h1, h2⟩
        | dctL l h1 h2 => cases h; exact ⟨a, _, rfl, l, .inr ⟨_, h1⟩, h2⟩
  | _ => cases h
theorem kOf_at {k : Key} (h : kOf x = some k) (hx : RV B r H x v) : v = kV k := by
  cases x with
  | int i => cases h; cases hx; rfl
  | str z => cases h; cases hx; rfl
  | _ => cases h
theorem atK_at {k : Key} : ∀ {ks : List Key} {ds : List D} {vs : List V}, ks.length = ds.length → RVs B r H ds vs → (∀ d, atK ks ds k = some d → ∃ v, valV (ks.zip vs) k = some v ∧ RV B r H d v) ∧ ((valV (ks.zip vs) k).isSome = hasK ks k)
  | [], ds, vs, _, hs => by
    refine ⟨fun d q => ?_, ?_⟩
    · cases ds <;> cases q
    · simp [valV_nil, hasK]
  | j :: ks, [], vs, l, _ => by cases l
  | j :: ks, d :: ds, _, l, .cons (v := v) (vs := vs) h hs => by
    obtain ⟨i1, i2⟩ := atK_at (k := k) (ks := ks) (by simpa using l) hs
    by_cases e : j = k
    · subst e
      refine ⟨fun d' q => ?_, ?_⟩
      · simp only [atK, if_true] at q
        cases q
        exact ⟨v, by rw [List.zip_cons_cons, valV_pos rfl], h⟩
      · rw [List.zip_cons_cons, valV_pos rfl]; simp [hasK]
    · refine ⟨fun d' q => ?_, ?_⟩
      · simp only [atK, if_neg e] at q
        rw [List.zip_cons_cons, valV_neg e]
        exact i1 d' q
      · rw [List.zip_cons_cons, valV_neg e, i2]
        simp [hasK, e]
/-- what is put, on both sides -/
theorem put_at {k : Key} {d : D} {u : V} (hd : RV B r H d u) : ∀ {ks : List Key} {ds : List D} {vs : List V}, ks.length = ds.length → RVs B r H ds vs →
    ∃ ws, putK (ks.zip vs) k u = (putKs ks k).zip ws ∧ (putKs ks k).length = (putDs ks ds k d).length ∧ RVs B r H (putDs ks ds k d) ws := by
  intro ks ds vs l hs
  have lv := hs.length
  by_cases hk : hasK ks k = true
  · have e1 : putKs ks k = ks := if_pos hk
    have e2 : putDs ks ds k d = setKs ks ds k d := if_pos hk
    have any : ((ks.zip vs).any fun kv => decide (kv.1 = k)) = true := by rw [valV_any, (atK_at l hs).2]; exact hk
    rw [e1, e2]
    have go : ∀ {ks : List Key} {ds : List D} {vs : List V}, ks.length = ds.length → RVs B r H ds vs → ∃ ws, ((ks.zip vs).map fun kv => if kv.1 = k then (kv.1, u) else kv) = ks.zip ws ∧ ks.length = (setKs ks ds k d).length ∧ RVs B r H (setKs ks ds k d) ws := by
      intro ks
      induction ks with
      | nil => intro ds vs l hs; cases ds with
        | nil => exact ⟨[], rfl, rfl, .nil⟩
        | cons _ _ => cases l
      | cons j ks ih =>
        intro ds vs l hs
        cases hs with
        | nil => cases l
        | @cons _ v0 _ _ h hs =>
          obtain ⟨ws, q1, q2, q3⟩ := ih (by simpa using l) hs
          by_cases e : j = k
          · exact ⟨u :: ws, by simp [e, q1], by simp [setKs, q2], by simp only [setKs, if_pos e]; exact .cons hd q3⟩
          · exact ⟨v0 :: ws, by simp [e, q1], by simp [setKs, q2], by simp only [setKs, if_neg e]; exact .cons h q3⟩
    obtain ⟨ws, q1, q2, q3⟩ := go l hs
    exact ⟨ws, by unfold putK; rw [if_pos any]; exact q1, q2, q3⟩
  · have e1 : putKs ks k = ks ++ [k] := if_neg hk
    have e2 : putDs ks ds k d = ds ++ [d] := if_neg hk
    have nv : valV (ks.zip vs) k = none := by
      have := (atK_at (k := k) l hs).2
      rw [show hasK ks k = false by simpa using hk] at this
      simpa using this
    rw [e1, e2, putK_new u nv]
    refine ⟨vs ++ [u], ?_, by simp [l], hs.append (.cons hd .nil)⟩
    rw [List.zip_append (by rw [l, lv])]; rfl
/-- a new dict -/
theorem Fn.dct {ks : List Key} (f : Fn B r H F Q) (s : RS B r S H) {m : Bool} (h : mkDc m ks ds S F) (l : ks.length = ds.length) (hs : RVs B r H ds vs) : ∀ p, H p = none → Q (.ref p) (upd H p (.dK (ks.zip vs))) := fun p np => by
  cases m with
  | false => exact f _ S r _ _ h (.new np) (s.new np) (.dct (s.free np) l (.inl upd_same) (hs.mono (.new np)))
  | true => exact f _ _ _ _ _ h (.cell np) (s.pushC np (.cell np) (fun a u w => (upd_ne (ne_of_none w np)).trans w) (.dct l upd_same (hs.mono (.cell np)))) (.ref (by show (r.c ++ [p])[S.length]? = some p; rw [← s.len]; simp))
mutual
/-- plain data, as the library reads it -/
theorem dp_of : ∀ (x : D) (v : V), RV B r H x v → pd x = true → Dp B.K H v (toP x)
  | .non, _, hx, _ => by cases hx; exact .non
  | .bl b, _, hx, _ => by cases hx; exact .bl b
  | .int i, _, hx, _ => by cases hx; exact .int i
  | .str z, _, hx, _ => by cases hx; exact .str z
  | .tup xs, _, hx, h => by
    obtain ⟨a, vs, rfl, k, hs⟩ := tup_at hx
    exact .tup k (dps_of xs vs hs (by simpa [pd] using h))
  | .lst xs, _, hx, h => by
    cases hx with
    | lst n hr hs => exact .lst (.of hr) (dps_of xs _ hs (by simpa [pd] using h))
  | .rol xs, _, hx, h => by
    cases hx with
    | rol n hr hs => exact .lst (.inl hr) (dps_of xs _ hs (by simpa [pd] using h))
    | rolK hr hs => exact .lst (hr H) (dps_of xs _ hs (by simpa [pd] using h))
  | .ty _, _, _, h => by simp [pd] at h
  | .ref _, _, _, h => by simp [pd] at h
  | .ins _ _ _, _, _, h => by simp [pd] at h
  | .dct _ _, _, _, h => by simp [pd] at h
  | .exc _ _ _ _ _, _, _, h => by simp [pd] at h
theorem dps_of : ∀ (xs : List D) (vs : List V), RVs B r H xs vs → pds xs = true → DpAll B.K H vs (toPs xs)
  | [], _, hs, _ => by cases hs; exact .nil
  | x :: xs, _, hs, h => by
    cases hs with
    | cons h1 h2 =>
      have h' : pd x = true ∧ pds xs = true := by simpa [pds] using h
      exact .cons (dp_of x _ h1 h'.1) (dps_of xs _ h2 h'.2)
end
/-- a cell's list is read -/
theorem rd_at (s : RS B r S H) (hx : RV B r H x v) (h : pd (rd S x) = true) : Dp B.K H v (toP (rd S x)) := by
  cases x with
  | ref n =>
    cases hx with
    | ref hr =>
      rename_i a
      simp only [rd] at h ⊢
      cases q : S[n]? with
      | none => rw [q] at h; simp [pd] at h
      | some c =>
        rw [q] at h
        have k := s.at_ n c a q hr
        cases k with
        | lst h1 h2 => exact .lst (.of h1) (dps_of _ _ h2 (by simpa [pd] using h))
        | ins _ _ _ _ => simp [pd] at h
        | dct _ _ _ => simp [pd] at h
        | dctL _ _ _ => simp [pd] at h
  | non => exact dp_of _ _ hx h
  | bl _ => exact dp_of _ _ hx h
  | int _ => exact dp_of _ _ hx h
  | str _ => exact dp_of _ _ hx h
  | ty _ => exact dp_of _ _ hx h
  | tup _ => exact dp_of _ _ hx h
  | lst _ => exact dp_of _ _ hx h
  | rol _ => exact dp_of _ _ hx h
  | ins _ _ _ => exact dp_of _ _ hx h
  | dct _ _ => exact dp_of _ _ hx h
  | exc _ _ _ _ _ => exact dp_of _ _ hx h
mutual
theorem can_of : ∀ x : D, pd x = true → (toP x).canLay0 = true
  | .non, _ => rfl
  | .bl _, _ => rfl
  | .int _, _ => rfl
  | .str z, h => by simpa [toP, PyData.canLay0, pd] using h
  | .tup xs, h => by simp only [toP, PyData.canLay0]; exact cans_of xs (by simpa [pd] using h)
  | .lst xs, h => by simp only [toP, PyData.canLay0]; exact cans_of xs (by simpa [pd] using h)
  | .rol xs, h => by simp only [toP, PyData.canLay0]; exact cans_of xs (by simpa [pd] using h)
  | .ty _, h => by simp [pd] at h
  | .ref _, h => by simp [pd] at h
  | .ins _ _ _, h => by simp [pd] at h
  | .dct _ _, h => by simp [pd] at h
theorem cans_of : ∀ xs : List D, pds xs = true → PyData.canLayAll0 (toPs xs) = true
  | [], _ => rfl
  | x :: xs, h => by
    have h' : pd x = true ∧ pds xs = true := by simpa [pds] using h
    simp only [toPs, PyData.canLayAll0, can_of x h'.1, cans_of xs h'.2, Bool.and_self]
end
theorem okD.shaped (h : okD x) : SeqAt.shaped (toP x) = true := by
  unfold SeqAt.shaped
  rw [can_of x h.1, Bool.true_and]
  exact decide_eq_true (by have := h.2; omega)
end

/-! ### operations by values -/
def L2op (B : Bk) (w : D → D → Store → Post → Prop) : R2 := fun v u H Q => ∃ r S x y F, RS B r S H ∧ RV B r H x v ∧ RV B r H y u ∧ w x y S F ∧ Fn B r H F Q
def L1op (B : Bk) (w : D → Store → Post → Prop) : V → Hp → VK → Prop := fun v H Q => ∃ r S x F, RS B r S H ∧ RV B r H x v ∧ w x S F ∧ Fn B r H F Q
def LCop (B : Bk) (w : List D → Store → Post → Prop) : List V → Hp → VK → Prop := fun vs H Q => ∃ r S ds F, RS B r S H ∧ RVs B r H ds vs ∧ w ds S F ∧ Fn B r H F Q
theorem OpR.imp {X : Cx} {f : Value → Value → Sem Value} {a b : R2} (h : OpR X f a) (k : ∀ v u H Q, b v u H Q → a v u H Q) : OpR X f b :=
  fun pins s σ H x y v u Q I rx ry q => h pins s σ H x y v u Q I rx ry (k _ _ _ _ q)
theorem RVs.rep {B : Bk} {r : Rg} {H : Hp} {ds : List D} {vs : List V} (h : RVs B r H ds vs) : ∀ k : Nat, RVs B r H (List.replicate k ds).flatten (List.replicate k vs).flatten
  | 0 => .nil
  | k + 1 => by
    rw [List.replicate_succ, List.replicate_succ, List.flatten_cons, List.flatten_cons]
    exact h.append (RVs.rep h k)
section
variable {B : Bk} {X : Cx}
theorem bin_add {m : Bool} (hK : X.K = B.K) : OpR X (binaryOp .Add) (L2op B (wBin m .Add)) := by
  have big := ((op_add (X := X)).or (op_add_str (X := X))).or ((op_catA (X := X)).or (op_cat (X := X)))
  refine OpR.imp big fun v u H Q ⟨r, S, x, y, F, hS, hx, hy, hw, hf⟩ => ?_
  unfold wBin at hw
  split at hw
  all_goals try contradiction
  · cases hx; cases hy; exact .inl (.inl ⟨_, _, rfl, rfl, hf.int hS hw⟩)
  · obtain ⟨a, vs, rfl, k, hs⟩ := tup_at hx
    obtain ⟨b, us, rfl, k2, hs2⟩ := tup_at hy
    refine .inr (.inl ⟨a, b, vs, us, rfl, rfl, by rw [hK]; exact k, by rw [hK]; exact k2, by rw [← hs.length, ← hs2.length]; exact hw.1, fun e => ?_, fun e e2 => ?_, fun e e2 => ?_⟩)
    · subst e; cases hs
      exact hf.here hS hw.2 hy
    · subst e2; cases hs2
      exact hf.here hS (by simpa using hw.2) hx
    · exact hf.tup hS hw.2 (hs.append hs2)
  · cases hx; cases hy; exact .inl (.inr ⟨_, _, rfl, rfl, hw.1, hf.str hS hw.2⟩)
  · obtain ⟨xs, ys, h1, h2, hl, hm⟩ := hw
    obtain ⟨a, vs, rfl, k, hs⟩ := lsM_at hS h1 hx
    obtain ⟨b, us, rfl, k2, hs2⟩ := lsM_at hS h2 hy
    exact .inr (.inr ⟨a, b, vs, us, rfl, rfl, k, k2, by rw [← hs.length, ← hs2.length]; exact hl, hf.mk hS hm (hs.append hs2)⟩)
theorem bin_sub {m : Bool} : OpR X (binaryOp .Sub) (L2op B (wBin m .Sub)) := by
  refine OpR.imp (op_sub (X := X)) fun v u H Q ⟨r, S, x, y, F, hS, hx, hy, hw, hf⟩ => ?_
  unfold wBin at hw
  split at hw
  all_goals try contradiction
  cases hx; cases hy; exact ⟨_, _, rfl, rfl, hf.int hS hw⟩
theorem bits64 {i : Int} (h : i.natAbs < 2 ^ 64) : Builtin.Int.intBits i ≤ 64 := by
  unfold Builtin.Int.intBits
  split
  · omega
  · rename_i h0
    have h0' : i.natAbs ≠ 0 := fun z => h0 (by rw [beq_iff_eq]; omega)
    have := (Nat.log2_lt h0').mpr h
    omega
theorem mulOk.ok {i j : Int} (h : mulOk i j) : IntMulOk i j := by
  rcases h with h | h | h
  · exact IntMulOk.of_left (bits64 h)
  · exact IntMulOk.of_right (bits64 h)
  · exact CMulW.ok h
theorem op_mulA : OpR X (binaryOp .Mult) (rI mulOk fun i j => .int (i * j)) := opI fun _ _ _ _ _ _ _ hc q => mul_int q hc.ok
theorem bin_mul {m : Bool} (hK : X.K = B.K) : OpR X (binaryOp .Mult) (L2op B (wBin m .Mult)) := by
  have big := (op_mulA (X := X)).or ((op_repT (X := X)).or (op_rep (X := X)))
  refine OpR.imp big fun v u H Q ⟨r, S, x, y, F, hS, hx, hy, hw, hf⟩ => ?_
  unfold wBin at hw
  split at hw
  all_goals try contradiction
  · cases hx; cases hy; exact .inl ⟨_, _, rfl, rfl, hw.1, hf.int hS hw.2⟩
  · obtain ⟨a, vs, rfl, k, hs⟩ := tup_at hx
    cases hy
    obtain ⟨h1, h2, h3, h4, h5⟩ := hw
    refine .inr (.inl ⟨a, _, vs, rfl, rfl, by rw [hK]; exact k, fun e => h1 ?_, h2, h3, by rw [← hs.length]; exact h4, hf.tup hS h5 (hs.rep _)⟩)
    subst e; cases hs; rfl
  · obtain ⟨xs, h1, h2, h3, hm⟩ := hw
    obtain ⟨a, vs, rfl, k, hs⟩ := lsM_at hS h1 hx
    cases hy
    refine .inr (.inr ⟨a, _, vs, rfl, rfl, k, by omega, by omega, ?_, hf.mk hS hm (hs.rep _)⟩)
    rw [← hs.length]
    exact Nat.le_trans (Nat.mul_le_mul h3 (by omega : _ ≤ 1000)) (by decide)
theorem bin_fdiv {m : Bool} : OpR X (binaryOp .FloorDiv) (L2op B (wBin m .FloorDiv)) := by
  refine OpR.imp (op_fdivW (X := X)) fun v u H Q ⟨r, S, x, y, F, hS, hx, hy, hw, hf⟩ => ?_
  unfold wBin at hw
  split at hw
  all_goals try contradiction
  cases hx; cases hy; exact ⟨_, _, rfl, rfl, hw.1, hf.int hS hw.2⟩
theorem bin_mod {m : Bool} : OpR X (binaryOp .Mod) (L2op B (wBin m .Mod)) := by
  refine OpR.imp (op_mod (X := X)) fun v u H Q ⟨r, S, x, y, F, hS, hx, hy, hw, hf⟩ => ?_
  unfold wBin at hw
  split at hw
  all_goals try contradiction
  cases hx; cases hy; exact ⟨_, _, rfl, rfl, hw.1, hf.int hS hw.2⟩
theorem bin_pow {m : Bool} : OpR X (binaryOp .Pow) (L2op B (wBin m .Pow)) := by
  refine OpR.imp (op_pow (X := X)) fun v u H Q ⟨r, S, x, y, F, hS, hx, hy, hw, hf⟩ => ?_
  unfold wBin at hw
  split at hw
  all_goals try contradiction
  cases hx; cases hy; exact ⟨_, _, rfl, rfl, hw.1, hf.int hS hw.2⟩
theorem OpR.never {f : Value → Value → Sem Value} {a : R2} (h : ∀ v u H Q, ¬ a v u H Q) : OpR X f a := fun _ _ _ _ _ _ _ _ _ _ _ _ q => (h _ _ _ _ q).elim
theorem bin_none {m : Bool} {o : Operator} (h : ∀ x y S F, ¬ wBin m o x y S F) : OpR X (binaryOp o) (L2op B (wBin m o)) := OpR.never fun _ _ _ _ ⟨_, _, x, y, F, _, _, _, hw, _⟩ => h _ _ _ _ hw
theorem bin_any {m : Bool} (hK : X.K = B.K) : ∀ o, OpR X (binaryOp o) (L2op B (wBin m o)) := by
  intro o
  cases o
  case Add => exact bin_add hK
  case Sub => exact bin_sub
  case Mult => exact bin_mul hK
  case FloorDiv => exact bin_fdiv
  case Mod => exact bin_mod
  case Pow => exact bin_pow
  all_goals
    refine bin_none fun x y S F h => ?_
    unfold wBin at h
    split at h <;> first | contradiction | exact h
theorem neg_any : UnR X (unaryOp .USub) (L1op B wNeg) := by
  intro pins s σ H x v Q I rx ⟨r, S, d, F, hS, hx, hw, hf⟩
  unfold wNeg at hw
  split at hw
  · cases hx; exact un_neg pins s σ H _ v Q I rx ⟨_, rfl, hf.int hS hw⟩
  · exact hw.elim

/-! comparisons -/
/-- a comparison's wish, by values -/
def L2cmp (B : Bk) (w : D → D → Store → (Bool → Prop) → Prop) : R2 := fun v u H Q => ∃ r S x y k, RS B r S H ∧ RV B r H x v ∧ RV B r H y u ∧ w x y S k ∧ ∀ b, k b → Q (.bl b) H
theorem dec_int' (i j : Int) : decide (V.int i = V.int j) = decide (i = j) := by simp
theorem dec_str' (i j : Str) : decide (V.str i = V.str j) = decide (i = j) := by simp
theorem dec_bl' (i j : Bool) : decide (V.bl i = V.bl j) = decide (i = j) := by simp
theorem rvs_empty {B : Bk} {r : Rg} {H : Hp} {ds : List D} {vs : List V} (h : RVs B r H ds vs) : vs.isEmpty = ds.isEmpty := by
  cases h <;> rfl
theorem cmp_eq (hK : X.K = B.K) (hu : X.A.units + 64 < cLine) : OpR X (compareOp .Eq) (L2cmp B fun x y S k => wEq x y S k) := by
  have big := (op_eqT0 (X := X) hu).or ((op_eq (X := X)).or (op_eqD (X := X) hu))
  refine OpR.imp big fun v u H Q ⟨r, S, x, y, k, hS, hx, hy, hw0, hk⟩ => ?_
  have hw := hw0
  simp only [wEq] at hw
  split at hw
  · obtain ⟨a, vs, rfl, h1, h2⟩ := tup_at hx
    obtain ⟨b, ws, rfl, h3, h4⟩ := tup_at hy
    cases h4
    have e2 := rvs_empty h2
    refine .inl ⟨a, b, vs, rfl, rfl, by rw [hK]; exact h1, by rw [hK]; exact h3, ?_⟩
    rw [e2]; exact hk _ hw
  · cases hx; cases hy
    refine .inr (.inl ⟨rfl, ?_⟩)
    rw [dec_int']
    exact hk _ hw
  · cases hx; cases hy
    refine .inr (.inl ⟨rfl, ?_⟩)
    rw [dec_str']
    exact hk _ hw
  · cases hx; cases hy
    refine .inr (.inl ⟨rfl, ?_⟩)
    rw [dec_bl']
    exact hk _ hw
  · obtain ⟨h1, h2, h3⟩ := hw
    exact .inr (.inr ⟨_, _, by rw [hK]; exact rd_at hS hx h1.1, by rw [hK]; exact rd_at hS hy h2.1, h1.shaped, h2.shaped, hk _ h3⟩)
theorem cmp_ne (hK : X.K = B.K) (hu : X.A.units + 64 < cLine) : OpR X (compareOp .NotEq) (L2cmp B fun x y S k => wEq x y S fun b => k (!b)) := by
  have big := (op_neT0 (X := X) hu).or ((op_ne (X := X)).or (op_neD (X := X) hu))
  refine OpR.imp big fun v u H Q ⟨r, S, x, y, k, hS, hx, hy, hw0, hk⟩ => ?_
  have hw := hw0
  simp only [wEq] at hw
  split at hw
  · obtain ⟨a, vs, rfl, h1, h2⟩ := tup_at hx
    obtain ⟨b, ws, rfl, h3, h4⟩ := tup_at hy
    cases h4
    have e2 := rvs_empty h2
    refine .inl ⟨a, b, vs, rfl, rfl, by rw [hK]; exact h1, by rw [hK]; exact h3, ?_⟩
    rw [e2]; exact hk _ hw
  · cases hx; cases hy
    refine .inr (.inl ⟨rfl, ?_⟩)
    rw [dec_int']
    exact hk _ hw
  · cases hx; cases hy
    refine .inr (.inl ⟨rfl, ?_⟩)
    rw [dec_str']
    exact hk _ hw
  · cases hx; cases hy
    refine .inr (.inl ⟨rfl, ?_⟩)
    rw [dec_bl']
    exact hk _ hw
  · obtain ⟨h1, h2, h3⟩ := hw
    exact .inr (.inr ⟨_, _, by rw [hK]; exact rd_at hS hx h1.1, by rw [hK]; exact rd_at hS hy h2.1, h1.shaped, h2.shaped, hk _ h3⟩)
/-- a < b of plain data -/
theorem lt_any (hK : X.K = B.K) (hu : X.A.units + 64 < cLine) : OpR X (compareOp .Lt) (L2cmp B wLt) := by
  intro pins s σ H x' y' v u Q I rx ry ⟨r, S, x, y, k, hS, hx, hy, hw, hk⟩
  obtain ⟨h1, h2, h3, h4, h5⟩ := hw
  obtain ⟨as, r1⟩ := Dp.reads I _ x' v (by rw [hK]; exact rd_at hS hx h1.1) rx
  obtain ⟨bs, r2⟩ := Dp.reads I _ y' u (by rw [hK]; exact rd_at hS hy h2.1) ry
  refine PySem.W.lt_data r1 r2 h3 h4 (by have := h1.2; have := h2.2; omega) ?_
  exact ⟨.bl _, H, I, rfl, hk _ h5⟩
end
end M

set_option Elab.async false
set_option maxRecDepth 100000
set_option maxHeartbeats 4000000
/-! M4: comparisons, items, slices, built-in functions, methods, by values. -/
namespace M
open PySem L2 PyProof.Rows

section
variable {B : Bk} {r : Rg} {H : Hp} {S : Store}
theorem flat_of {x : D} {v : V} (h : flat x = true) (hx : RV B r H x v) : flatV v = true := by
  cases hx <;> first | rfl | (simp [flat] at h)
theorem eqF_of {x y : D} {v u : V} (h1 : flat x = true) (h2 : flat y = true) (hx : RV B r H x v) (hy : RV B r H y u) : eqV v u = eqF x y := by
  cases hx <;> cases hy <;> first | rfl | (simp [flat] at h1; done) | (simp [flat] at h2; done) | (simp [eqV, eqF]; done) | (simp only [eqV, eqF, Bool.beq_eq_decide_eq])
theorem any_flat {x : D} {v : V} (h1 : flat x = true) (hx : RV B r H x v) : ∀ {ds : List D} {vs : List V}, ds.all flat = true → RVs B r H ds vs → vs.all flatV = true ∧ inV v vs = ds.any fun z => eqF z x
  | _, _, _, .nil => ⟨rfl, rfl⟩
  | d :: ds, v' :: vs, h, .cons hd hs => by
    have h' : flat d = true ∧ ds.all flat = true := by simpa using h
    obtain ⟨i1, i2⟩ := any_flat h1 hx h'.2 hs
    refine ⟨by rw [List.all_cons, flat_of h'.1 hd, i1]; rfl, ?_⟩
    unfold inV at i2 ⊢
    rw [List.any_cons, List.any_cons, i2, eqF_of h'.1 h1 hd hx]
theorem any_toPs (p : PyData → Bool) : ∀ ds : List D, (toPs ds).any p = ds.any fun z => p (toP z)
  | [] => rfl
  | d :: ds => by simp only [toPs, List.any_cons, any_toPs p ds]
/-- a list, as the library reads it -/
theorem lsOf_dp {y : D} {u : V} {ds : List D} (hS : RS B r S H) (h : lsOf S y = some ds) (hy : RV B r H y u) (h2 : okD (.lst ds)) : Dp B.K H u (.list (toPs ds)) := by
  obtain ⟨a, vs, rfl, k, hs⟩ := lsOf_at hS h hy
  exact .lst k (dps_of ds vs hs (by have := h2.1; simpa [pd] using this))
end

section
variable {B : Bk} {X : Cx}
theorem op_inK (hu : X.A.units + 65 < cLine) : OpR X (compareOp .In) (fun x y H Q => ∃ a o, y = .ref a ∧ DGet H a x o ∧ Q (.bl o.isSome) H) := by
  intro pins s σ H x y v u Q I rx ry ⟨a, o, e, g, q⟩
  subst e
  cases ry
  exact d_in (by omega) I g rx fun s' I' => ⟨.bl o.isSome, H, I', rfl, q⟩
theorem op_notInK (hu : X.A.units + 65 < cLine) : OpR X (compareOp .NotIn) (fun x y H Q => ∃ a o, y = .ref a ∧ DGet H a x o ∧ Q (.bl (!o.isSome)) H) := by
  intro pins s σ H x y v u Q I rx ry ⟨a, o, e, g, q⟩
  subst e
  cases ry
  exact d_notIn (by omega) I g rx fun s' I' => ⟨.bl (!o.isSome), H, I', rfl, q⟩
/-- a key in a dict -/
theorem dget_at {r : Rg} {S : Store} {H : Hp} {x y : D} {v u : V} {ks : List Key} {ds : List D} {j : Key} (hS : RS B r S H) (h : dcOf S y = some (ks, ds)) (hx : RV B r H x v) (hy : RV B r H y u) (hj : kOf x = some j) : ∃ a o, u = .ref a ∧ DGet H a v o ∧ o.isSome = hasK ks j ∧ ∀ d, atK ks ds j = some d → ∃ w, o = some w ∧ RV B r H d w := by
  obtain ⟨a, vs, e, l, hr, hs⟩ := dcOf_at hS h hy
  obtain ⟨i1, i2⟩ := atK_at (k := j) l hs
  exact ⟨a, _, e, .inl ⟨_, j, hr, kOf_at hj hx, rfl⟩, i2, i1⟩
theorem ix_K (hu : X.A.units + 65 < cLine) : IxR X (fun x y H Q => ∃ a v, x = .ref a ∧ DGet H a y (some v) ∧ Q v H) := by
  intro value slice pins s σ H x y v u Q I rx ry ⟨a, w, e, g, q⟩ hs
  subst e
  cases rx
  exact PyProof.Rows.tail_any (dict_typeIs I g) PySem.F.slot_dict_getitem.lookup (d_getItem (by omega) I g ry fun w' s' I' rw' => ⟨w, H, I', rw', q⟩) hs
theorem len_K : CallR X (.builtin "len") (fun xs H Q => ∃ a kvs, xs = [.ref a] ∧ Rd H a (.dK kvs) ∧ Q (.int kvs.length) H) := by
  intro pins s σ H xs us Q I rv ⟨a, kvs, e, g, q⟩
  subst e
  obtain ⟨u, rfl, rx⟩ := vals1 rv
  cases rx
  exact d_len I g fun t s' I' => ⟨.int kvs.length, H, I', ⟨t, rfl⟩, q⟩
theorem strs_of {r : Rg} {H : Hp} : ∀ {ds : List D} {vs : List V}, ds.all isStr = true → RVs B r H ds vs → ∀ v ∈ vs, ∃ z, v = V.str z
  | _, _, _, .nil, _, h => by cases h
  | d :: ds, _, h, .cons hd hs, v, hv => by
    have h' : isStr d = true ∧ ds.all isStr = true := by simpa using h
    rcases List.mem_cons.mp hv with e | e
    · subst e
      cases d <;> first | (simp [isStr] at h'; done) | (cases hd; exact ⟨_, rfl⟩)
    · exact strs_of h'.2 hs v e
def rInDT (K : PySem.W.Frag) : R2 := fun x y H Q => ∃ d ds, Dp K H x d ∧ Dp K H y (.tuple ds) ∧ PySem.SeqAt.shaped d = true ∧ PySem.SeqAt.shaped (.tuple ds) = true ∧ Q (.bl (ds.any fun z => PyData.eqv z d)) H
def rNotInDT (K : PySem.W.Frag) : R2 := fun x y H Q => ∃ d ds, Dp K H x d ∧ Dp K H y (.tuple ds) ∧ PySem.SeqAt.shaped d = true ∧ PySem.SeqAt.shaped (.tuple ds) = true ∧ Q (.bl (!ds.any fun z => PyData.eqv z d)) H
theorem op_inDT (hu : X.A.units + 65 < cLine) : OpR X (compareOp .In) (rInDT X.K) := by
  intro pins s σ H x y v u Q I rx ry h
  obtain ⟨d, ds, hd, he, sd, se, q⟩ := h
  obtain ⟨as, r1⟩ := Dp.reads I d x v hd rx
  obtain ⟨bs, r2⟩ := Dp.reads I (.tuple ds) y u he ry
  exact PySem.SeqAt.in_tuple_reads r2 r1 (PySem.SeqAt.canLay_of_shaped se) (PySem.SeqAt.canLay_of_shaped sd) (room_in_shaped sd hu) ⟨.bl _, H, I, rfl, q⟩
theorem op_notInDT (hu : X.A.units + 65 < cLine) : OpR X (compareOp .NotIn) (rNotInDT X.K) := by
  intro pins s σ H x y v u Q I rx ry h
  obtain ⟨d, ds, hd, he, sd, se, q⟩ := h
  obtain ⟨as, r1⟩ := Dp.reads I d x v hd rx
  obtain ⟨bs, r2⟩ := Dp.reads I (.tuple ds) y u he ry
  exact PySem.SeqAt.notIn_tuple_reads r2 r1 (PySem.SeqAt.canLay_of_shaped se) (PySem.SeqAt.canLay_of_shaped sd) (room_in_shaped sd hu) ⟨.bl _, H, I, rfl, q⟩
theorem cmp_in (hK : X.K = B.K) (hu : X.A.units + 65 < cLine) : OpR X (compareOp .In) (L2cmp B wIn) := by
  refine OpR.imp (((op_inDI (X := X) hu).or (op_in_sign (X := X))).or ((op_inK (X := X) hu).or ((op_in_seq (X := X)).or ((op_inD (X := X) hu).or (op_inDT (X := X) hu))))) fun v u H Q ⟨r, S, x, y, k, hS, hx, hy, hw, hk⟩ => ?_
  have dc : ∀ {ks : List Key} {ds : List D}, dcOf S y = some (ks, ds) → (∃ j, kOf x = some j ∧ k (hasK ks j)) → ∃ a o, u = .ref a ∧ DGet H a v o ∧ Q (.bl o.isSome) H := fun h ⟨j, hj, q⟩ => by
    obtain ⟨a, o, e, g, ho, _⟩ := dget_at hS h hx hy hj
    exact ⟨a, o, e, g, by rw [ho]; exact hk _ q⟩
  have sq : (∃ ds, lsOf S y = some ds ∧ okD (rd S x) ∧ okD (.lst ds) ∧ k (ds.any fun z => PyData.eqv (toP z) (toP (rd S x)))) → rInD X.K v u H Q := fun ⟨ds, h1, h2, h3, h4⟩ =>
    ⟨_, _, by rw [hK]; exact rd_at hS hx h2.1, by rw [hK]; exact lsOf_dp hS h1 hy h3, h2.shaped, h3.shaped, by rw [any_toPs]; exact hk _ h4⟩
  unfold wIn at hw
  split at hw
  · rename_i ds
    split at hw
    · rename_i es
      obtain ⟨h1, h2, h3⟩ := hw
      exact .inr (.inr (.inr (.inr ⟨toP (.tup es), toPs ds, by rw [hK]; exact rd_at hS hx h1.1, by rw [hK]; exact rd_at (x := .tup ds) hS hy h2.1, h1.shaped, h2.shaped, by rw [any_toPs]; exact hk _ h3⟩)))
    obtain ⟨h1, h2, h3⟩ := hw
    obtain ⟨a, vs, rfl, kk, hs⟩ := tup_at hy
    obtain ⟨i1, i2⟩ := any_flat h1 hx h2 hs
    exact .inr (.inr (.inl ⟨a, vs, rfl, .inr (by rw [hK]; exact kk), flat_of h1 hx, i1, by simp only [Bool.false_eq_true, if_false]; rw [i2]; exact hk _ h3⟩))
  · exact .inr (.inl (dc rfl hw))
  · split at hw
    · rename_i ks ds q
      exact .inr (.inl (dc (ks := ks) (ds := ds) (by simp only [dcOf, q]) hw))
    · exact .inr (.inr (.inr (.inl (sq hw))))
  · split at hw
    · obtain ⟨h1, h2⟩ := hw
      cases hx with
      | dct n l hr hs =>
        cases hy with
        | lst n2 hH hl =>
          exact .inl (.inl ⟨_, _, _, _, rfl, hr, rfl, .of hH, strs_of h1 hl, hk _ h2⟩)
    · exact .inr (.inr (.inr (.inl (sq ⟨_, rfl, hw⟩))))
  · obtain ⟨c, rfl, q⟩ := hw
    cases hx
    cases hy
    exact .inl (.inr ⟨_, _, rfl, rfl, hk _ q⟩)
  · exact .inr (.inr (.inr (.inl (sq hw))))
theorem cmp_notIn (hK : X.K = B.K) (hu : X.A.units + 65 < cLine) : OpR X (compareOp .NotIn) (L2cmp B fun x y S k => wIn x y S fun b => k (!b)) := by
  refine OpR.imp (((op_notInDI (X := X) hu).or (op_notIn_sign (X := X))).or ((op_notInK (X := X) hu).or ((op_notIn_seq (X := X)).or ((op_notInD (X := X) hu).or (op_notInDT (X := X) hu))))) fun v u H Q ⟨r, S, x, y, k, hS, hx, hy, hw0, hk⟩ => ?_
  have hw := hw0
  have dc : ∀ {ks : List Key} {ds : List D}, dcOf S y = some (ks, ds) → (∃ j, kOf x = some j ∧ k (!hasK ks j)) → ∃ a o, u = .ref a ∧ DGet H a v o ∧ Q (.bl (!o.isSome)) H := fun h ⟨j, hj, q⟩ => by
    obtain ⟨a, o, e, g, ho, _⟩ := dget_at hS h hx hy hj
    exact ⟨a, o, e, g, by rw [ho]; exact hk _ q⟩
  have sq : (∃ ds, lsOf S y = some ds ∧ okD (rd S x) ∧ okD (.lst ds) ∧ k (!ds.any fun z => PyData.eqv (toP z) (toP (rd S x)))) → rNotInD X.K v u H Q := fun ⟨ds, h1, h2, h3, h4⟩ =>
    ⟨_, _, by rw [hK]; exact rd_at hS hx h2.1, by rw [hK]; exact lsOf_dp hS h1 hy h3, h2.shaped, h3.shaped, by rw [any_toPs]; exact hk _ h4⟩
  simp only [wIn] at hw
  split at hw
  · rename_i ds
    split at hw
    · rename_i es
      obtain ⟨h1, h2, h3⟩ := hw
      exact .inr (.inr (.inr (.inr ⟨toP (.tup es), toPs ds, by rw [hK]; exact rd_at hS hx h1.1, by rw [hK]; exact rd_at (x := .tup ds) hS hy h2.1, h1.shaped, h2.shaped, by rw [any_toPs]; exact hk _ h3⟩)))
    obtain ⟨h1, h2, h3⟩ := hw
    obtain ⟨a, vs, rfl, kk, hs⟩ := tup_at hy
    obtain ⟨i1, i2⟩ := any_flat h1 hx h2 hs
    exact .inr (.inr (.inl ⟨a, vs, rfl, .inr (by rw [hK]; exact kk), flat_of h1 hx, i1, by simp only [if_true]; rw [i2]; exact hk _ h3⟩))
  · exact .inr (.inl (dc rfl hw))
  · split at hw
    · rename_i ks ds q
      exact .inr (.inl (dc (ks := ks) (ds := ds) (by simp only [dcOf, q]) hw))
    · exact .inr (.inr (.inr (.inl (sq hw))))
  · split at hw
    · obtain ⟨h1, h2⟩ := hw
      cases hx with
      | dct n l hr hs =>
        cases hy with
        | lst n2 hH hl =>
          exact .inl (.inl ⟨_, _, _, _, rfl, hr, rfl, .of hH, strs_of h1 hl, hk _ h2⟩)
    · exact .inr (.inr (.inr (.inl (sq ⟨_, rfl, hw⟩))))
  · obtain ⟨c, rfl, q⟩ := hw
    cases hx
    cases hy
    exact .inl (.inr ⟨_, _, rfl, rfl, hk _ q⟩)
  · exact .inr (.inr (.inr (.inl (sq hw))))
theorem isNon_of {r : Rg} {H : Hp} {x : D} {v : V} (hx : RV B r H x v) : decide (v = V.non) = isNon x := by
  cases hx <;> simp [isNon]
theorem cmp_is : OpR X (compareOp .Is) (L2cmp B fun x y S k => wIs x y k) := by
  refine OpR.imp ((op_isN (X := X)).or (op_isBl (X := X))) fun v u H Q ⟨r, S, x, y, k, hS, hx, hy, hw0, hk⟩ => ?_
  have hw := hw0
  simp only [wIs] at hw
  split at hw
  · cases hy
    exact .inl ⟨rfl, by rw [isNon_of hx]; exact hk _ hw⟩
  · cases hx; cases hy
    exact .inr ⟨_, _, rfl, rfl, hk _ hw⟩
  · exact hw.elim
theorem cmp_isNot : OpR X (compareOp .IsNot) (L2cmp B fun x y S k => wIs x y fun b => k (!b)) := by
  refine OpR.imp ((op_notN (X := X)).or (op_notBl (X := X))) fun v u H Q ⟨r, S, x, y, k, hS, hx, hy, hw0, hk⟩ => ?_
  have hw := hw0
  simp only [wIs] at hw
  split at hw
  · cases hy
    exact .inl ⟨rfl, by rw [isNon_of hx]; exact hk _ hw⟩
  · cases hx; cases hy
    exact .inr ⟨_, _, rfl, rfl, hk _ hw⟩
  · exact hw.elim
theorem cmp_any (hK : X.K = B.K) (hu : X.A.units + 65 < cLine) : ∀ o, OpR X (compareOp o) (L2cmp B fun x y S k => wCmp o x y S k) := by
  intro o
  cases o
  case Eq => exact cmp_eq hK (by omega)
  case NotEq => exact cmp_ne hK (by omega)
  case Lt =>
    refine OpR.imp ((op_lt (X := X)).or (lt_any (B := B) hK (by omega))) fun v u H Q ⟨r, S, x, y, k, hS, hx, hy, hw0, hk⟩ => ?_
    have hw := hw0
    simp only [wCmp] at hw
    split at hw
    · cases hx; cases hy; exact .inl ⟨_, _, rfl, rfl, hk _ hw⟩
    · exact .inr ⟨r, S, x, y, k, hS, hx, hy, hw, hk⟩
  case LtE =>
    refine OpR.imp (op_le (X := X)) fun v u H Q ⟨r, S, x, y, k, hS, hx, hy, hw0, hk⟩ => ?_
    have hw := hw0
    simp only [wCmp] at hw
    split at hw
    · cases hx; cases hy; exact ⟨_, _, rfl, rfl, hk _ hw⟩
    · exact hw.elim
  case Gt =>
    refine OpR.imp (op_gt (X := X)) fun v u H Q ⟨r, S, x, y, k, hS, hx, hy, hw0, hk⟩ => ?_
    have hw := hw0
    simp only [wCmp] at hw
    split at hw
    · cases hx; cases hy; exact ⟨_, _, rfl, rfl, hk _ hw⟩
    · exact hw.elim
  case GtE =>
    refine OpR.imp (op_ge (X := X)) fun v u H Q ⟨r, S, x, y, k, hS, hx, hy, hw0, hk⟩ => ?_
    have hw := hw0
    simp only [wCmp] at hw
    split at hw
    · cases hx; cases hy; exact ⟨_, _, rfl, rfl, hk _ hw⟩
    · exact hw.elim
  case Is => exact cmp_is
  case IsNot => exact cmp_isNot
  case In => exact cmp_in hK hu
  case NotIn => exact cmp_notIn hK hu

/-! items, slices -/
theorem IxR.imp {a b : R2} (h : IxR X a) (k : ∀ v u H Q, b v u H Q → a v u H Q) : IxR X b :=
  fun value sl pins s σ H x y v u Q I rx ry q e => h value sl pins s σ H x y v u Q I rx ry (k _ _ _ _ q) e
theorem atI_of {r : Rg} {H : Hp} {ds : List D} {vs : List V} {i : Int} {d : D} (hs : RVs B r H ds vs) (h : atI ds i = some d) : ∃ v, atI vs i = some v ∧ RV B r H d v := by
  unfold atI at h ⊢
  rw [← hs.length]
  cases e : ixN ds.length i with
  | none => rw [e] at h; cases h
  | some j => rw [e] at h; exact hs.get h
theorem ix_any (hK : X.K = B.K) (hu : X.A.units + 65 < cLine) : IxR X (L2op B wIx) := by
  refine IxR.imp ((ix_K (X := X) hu).or (ix_seq (X := X))) fun v u H Q ⟨r, S, x, y, F, hS, hx, hy, hw, hf⟩ => ?_
  have dc : ∀ {ks : List Key} {ds : List D}, dcOf S x = some (ks, ds) → (∃ k d, kOf y = some k ∧ atK ks ds k = some d ∧ F d S) → ∃ a w, v = .ref a ∧ DGet H a u (some w) ∧ Q w H := fun h ⟨k, d, hk, h1, h2⟩ => by
    obtain ⟨a, o, e, g, _, i1⟩ := dget_at hS h hy hx hk
    obtain ⟨w, rfl, hw⟩ := i1 d h1
    exact ⟨a, w, e, g, hf.here hS h2 hw⟩
  have sq : ∀ {i : Int}, y = .int i → (∃ ds d, sqOf S x = some ds ∧ atI ds i = some d ∧ F d S) → rIx X.K v u H Q := fun ey ⟨ds, d, h1, h2, h3⟩ => by
    subst ey
    cases hy
    obtain ⟨a, vs, rfl, k, hs⟩ := sqOf_at hS h1 hx
    obtain ⟨v, h4, h5⟩ := atI_of hs h2
    rcases k with k | k
    · exact .inl ⟨a, vs, _, v, rfl, rfl, by rw [hK]; exact k, h4, hf.here hS h3 h5⟩
    · exact .inr (.inl ⟨a, vs, _, v, rfl, rfl, by rw [hK]; exact k, h4, hf.here hS h3 h5⟩)
  unfold wIx at hw
  split at hw
  · obtain ⟨h1, c, h2, h3⟩ := hw
    cases hx; cases hy
    exact .inr (.inr (.inr ⟨_, _, c, rfl, rfl, h1, h2, hf.str hS h3⟩))
  · exact .inl (dc rfl hw)
  · split at hw
    · rename_i ks ds q
      exact .inl (dc (ks := ks) (ds := ds) (by simp only [dcOf, q]) hw)
    · split at hw
      · exact .inr (sq rfl hw)
      · exact hw.elim
  · exact .inr (sq rfl hw)
  · exact hw.elim
theorem cut_of {r : Rg} {H : Hp} {ds : List D} {vs : List V} (hs : RVs B r H ds vs) (lo hi : Option Int) : RVs B r H (cutD ds lo hi) (cutV vs lo hi) := by
  unfold cutD cutV
  rw [← hs.length]
  exact (hs.drop _).take _
def L2sl (B : Bk) (w : D → Option Int → Option Int → Store → Post → Prop) : V → Option Int → Option Int → Hp → VK → Prop := fun v lo hi H Q => ∃ r S x F, RS B r S H ∧ RV B r H x v ∧ w x lo hi S F ∧ Fn B r H F Q
theorem cut_whole {ds : List D} {lo hi : Option Int} (h : HT.sIx ds.length 0 lo = 0 ∧ HT.sIx ds.length ds.length hi = ds.length) : cutD ds lo hi = ds := by
  unfold cutD
  rw [h.1, h.2]; simp
theorem sl_any {m : Bool} (hK : X.K = B.K) : SlR X (L2sl B (wSl m)) := by
  have big := ((sl_tupA (X := X)).or (sl_str (X := X))).or (sl_list (X := X))
  intro pins s σ H x v vl vu lo hi sl Q I rx hs pl pu ⟨r, S, d, F, hS, hx, hw, hf⟩
  refine big pins s σ H x v vl vu lo hi sl Q I rx hs pl pu ?_
  unfold wSl at hw
  split at hw
  · obtain ⟨a, vs, rfl, k, hv⟩ := tup_at hx
    refine .inl (.inl ⟨a, vs, rfl, by rw [hK]; exact k, fun e => ?_, fun e => hf.tup hS hw (cut_of hv lo hi)⟩)
    rw [← hv.length] at e
    rw [cut_whole e] at hw
    exact hf.here hS hw hx
  · cases hx
    exact .inl (.inr ⟨_, rfl, hw.1, hf.str hS hw.2⟩)
  · obtain ⟨xs, h1, h2⟩ := hw
    obtain ⟨a, vs, rfl, k, hv⟩ := lsOf_at hS h1 hx
    exact .inr ⟨a, vs, rfl, by rw [hK]; exact k, hf.mk hS h2 (cut_of hv lo hi)⟩
end

/-! what is shown -/
mutual
theorem shown_len : ∀ x : D, pdx x = true → shw x = true → (toP x).shown.length ≤ wid x
  | .non, _, _ => by show Str.length _ ≤ 5; decide +kernel
  | .bl b, _, _ => by cases b <;> (show Str.length _ ≤ 5; decide +kernel)
  | .int i, _, h => by
    have h' : i.natAbs.log2 < 1900 := by simpa [shw] using h
    have e := int_text_length_le (k := 1900) (by decide) h'
    show (Str.ofString (toString i)).length ≤ 2000
    rw [PySem.ofString_length]
    omega
  | .str z, h, _ => by
    simp only [toP, PyData.shown, wid]
    refine StrLaws.reprText_len z fun c hc => ?_
    have h' : (z.cps.all (· < 0x110000)) = true := by simpa [pdx, PyData.strOk] using h
    have := Array.all_eq_true_iff_forall_mem.mp h' c (by simpa using hc)
    simp at this
    omega
  | .tup xs, h, h2 => by
    simp only [toP, PyData.shown, wid]
    refine Nat.le_trans (tupleText_len_le _) ?_
    have := shown_lens xs (by simpa [pdx] using h) (by simpa [shw] using h2)
    omega
  | .lst xs, h, h2 => by
    simp only [toP, PyData.shown, wid]
    refine Nat.le_trans (listText_len_le _) ?_
    have := shown_lens xs (by simpa [pdx] using h) (by simpa [shw] using h2)
    omega
  | .rol xs, h, h2 => by
    simp only [toP, PyData.shown, wid]
    refine Nat.le_trans (listText_len_le _) ?_
    have := shown_lens xs (by simpa [pdx] using h) (by simpa [shw] using h2)
    omega
  | .ty _, h, _ => by simp [pdx] at h
  | .ref _, h, _ => by simp [pdx] at h
  | .ins _ _ _, h, _ => by simp [pdx] at h
  | .dct _ _, _, _ => by show (PyData.dict []).shown.length ≤ 5; decide +kernel
theorem shown_lens : ∀ xs : List D, pdxs xs = true → shws xs = true → ((PyData.shownAll (toPs xs)).map (·.length)).sum + 2 * (PyData.shownAll (toPs xs)).length ≤ wids xs
  | [], _, _ => by simp [toPs, PyData.shownAll, wids]
  | x :: xs, h, h2 => by
    have h' : pdx x = true ∧ pdxs xs = true := by simpa [pdxs] using h
    have h2' : shw x = true ∧ shws xs = true := by simpa [shws] using h2
    have e1 := shown_len x h'.1 h2'.1
    have e2 := shown_lens xs h'.2 h2'.2
    simp only [toPs, PyData.shownAll, wids, List.map_cons, List.sum_cons, List.length_cons]
    omega
end
mutual
theorem showable_of : ∀ x : D, pdx x = true → shw x = true → (toP x).showable = true
  | .non, _, _ => rfl
  | .bl b, _, _ => rfl
  | .int i, _, h => by
    have h' : i.natAbs.log2 < 1900 := by simpa [shw] using h
    simp only [toP, PyData.showable]
    exact decide_eq_true (by omega)
  | .str z, h, _ => rfl
  | .tup xs, h, h2 => by simp only [toP, PyData.showable]; exact showables_of xs (by simpa [pdx] using h) (by simpa [shw] using h2)
  | .lst xs, h, h2 => by simp only [toP, PyData.showable]; exact showables_of xs (by simpa [pdx] using h) (by simpa [shw] using h2)
  | .rol xs, h, h2 => by simp only [toP, PyData.showable]; exact showables_of xs (by simpa [pdx] using h) (by simpa [shw] using h2)
  | .ty _, h, _ => by simp [pdx] at h
  | .ref _, h, _ => by simp [pdx] at h
  | .ins _ _ _, h, _ => by simp [pdx] at h
  | .dct _ _, _, _ => rfl
theorem showables_of : ∀ xs : List D, pdxs xs = true → shws xs = true → PyData.showableAll (toPs xs) = true
  | [], _, _ => rfl
  | x :: xs, h, h2 => by
    have h' : pdx x = true ∧ pdxs xs = true := by simpa [pdxs] using h
    have h2' : shw x = true ∧ shws xs = true := by simpa [shws] using h2
    simp only [toPs, PyData.showableAll, showable_of x h'.1 h2'.1, showables_of xs h'.2 h2'.2, Bool.and_self]
end
mutual
theorem pdx_of : ∀ d : D, pd d = true → pdx d = true
  | .non, _ => rfl
  | .bl _, _ => rfl
  | .int _, _ => rfl
  | .str _, h => h
  | .tup xs, h => pdxs_of xs h
  | .lst xs, h => pdxs_of xs h
  | .rol xs, h => pdxs_of xs h
  | .ty _, h => by simp [pd] at h
  | .ref _, h => by simp [pd] at h
  | .ins _ _ _, h => by simp [pd] at h
  | .dct _ _, h => by simp [pd] at h
  | .exc _ _ _ _ _, h => by simp [pd] at h
theorem pdxs_of : ∀ ds : List D, pds ds = true → pdxs ds = true
  | [], _ => rfl
  | x :: xs, h => by
    have h' : pd x = true ∧ pds xs = true := by simpa [pds] using h
    simp only [pdxs, pdx_of x h'.1, pdxs_of xs h'.2, Bool.and_self]
end
theorem okD.x {d : D} (h : okD d) : okX d := ⟨pdx_of d h.1, h.2⟩
theorem rm_nil {h : Heap} {n : Nat} : ReadAtMost h n [] := fun _ z => nomatch z
mutual
/-- what is shown of data where empty dicts may stand -/
theorem rk_of {X : Cx} {B : Bk} {r : Rg} {pins : List (Addr × Obj)} {σ : L2.St} {H : Hp} {s : Shared} (I : Inv X pins σ H s) (hK : X.K = B.K) : ∀ (d : D) (v : V) (u : Value), RV B r H d v → RelV v u → pdx d = true → (toP d).showable = true → (toP d).shown.length ≤ sizeLine →
    ∃ as bs, Reads s.heap u (toP d) as ∧ ReadAtMost s.heap (toP d).depth bs ∧ ReprK X.prog X.w bs s.heap (toP d).depth u (toP d).shown
  | .non, _, _, hv, ru, _, _, _ => by
    cases hv; cases ru
    refine ⟨_, [], .none, rm_nil, ?_⟩
    simp only [toP, PyData.shown]
    exact .of_is ReprIs.none _ _ _
  | .bl b, _, _, hv, ru, _, _, _ => by
    cases hv; cases ru
    refine ⟨_, [], .bool b, rm_nil, ?_⟩
    simp only [toP, PyData.shown]
    exact .of_is (ReprIs.bool b) _ _ _
  | .int i, _, _, hv, ru, _, hs, _ => by
    cases hv
    obtain ⟨t, rfl⟩ := ru
    refine ⟨_, [], .int i t, rm_nil, ?_⟩
    simp only [toP, PyData.shown]
    exact .of_is (ReprIs.int t (by simpa [toP, PyData.showable] using hs)) _ _ _
  | .str x, _, _, hv, ru, _, _, hz => by
    cases hv
    obtain ⟨t, rfl⟩ := ru
    refine ⟨_, [], .str x t, rm_nil, ?_⟩
    simp only [toP, PyData.shown] at hz ⊢
    exact .of_is (ReprIs.str x t hz) _ _ _
  | .tup xs, _, _, hv, ru, hp, hs, hz => by
    obtain ⟨a, vs, rfl, hq, hr⟩ := tup_at hv
    cases ru
    obtain ⟨its, rv, ⟨o, ho, hc, n, hd⟩, _⟩ := I.tuple (by rw [hK]; exact hq)
    simp only [toP, PyData.shown] at hz ⊢
    obtain ⟨as, bs, h1, h2, h3⟩ := rks_of I hK xs _ _ hr rv (by simpa [pdx] using hp) (by simpa [toP, PyData.showable] using hs) fun t ht => Nat.le_trans (tupleText_mem_le ht) hz
    have rd : Reads s.heap (.ref a) (.tuple (toPs xs)) as := .tuple ho hc hd h1
    have na := not_mem_of_deeper rd (n := PyData.depthAll (toPs xs)) (by simp only [PyData.depth]; omega) h2
    refine ⟨as, a :: bs, rd, ReadAtMost.cons rd (by simp only [PyData.depth]; omega) h2, ?_⟩
    simp only [PyData.depth]
    exact ReprK.tuple ho hc hd na h3
  | .lst xs, _, _, hv, ru, hp, hs, hz => by
    cases hv with
    | lst nn hH hr => exact rl_of I hK (.of hH) hr ru (by simpa [pdx] using hp) hs hz
  | .rol xs, _, _, hv, ru, hp, hs, hz => by
    cases hv with
    | rol nn hH hr => exact rl_of I hK (.inl hH) hr ru (by simpa [pdx] using hp) hs hz
    | rolK hH hr => exact rl_of I hK (hH H) hr ru (by simpa [pdx] using hp) hs hz
  | .dct ks ds, _, _, hv, ru, hp, _, _ => by
    have hp' : ks = [] ∧ ds = [] := by simpa [pdx] using hp
    obtain ⟨rfl, rfl⟩ := hp'
    cases hv with
    | @dct _ a vs _ nn l hr hs =>
      cases ru
      cases hs
      obtain ⟨_, sy, ws, kv, o, es, ep, ho, ⟨c, _, _⟩, hd, _, pr, _⟩ := dk_rd I.hok hr
      cases kv
      have e0 : es.toList = [] := List.eq_nil_of_length_eq_zero (by have := pr.length; simpa using this)
      have rd : Reads s.heap (.ref a) (.dict []) _ := .dict ho c hd (by rw [e0]; exact .nil) (by rw [e0]; exact .nil)
      have rm : ReadAtMost s.heap (PyData.depthKv []) [] := rm_nil
      refine ⟨_, [a], rd, ReadAtMost.cons rd (by show PyData.depthKv [] ≤ (PyData.dict []).depth; decide) rm, ?_⟩
      exact ReprK.dict ho c hd sy (by simp) (by rw [e0]; exact .nil)
  | .ty _, _, _, _, _, hp, _, _ => by simp [pdx] at hp
  | .ref _, _, _, _, _, hp, _, _ => by simp [pdx] at hp
  | .ins _ _ _, _, _, _, _, hp, _, _ => by simp [pdx] at hp
  | .exc _ _ _ _ _, _, _, _, _, hp, _, _ => by simp [pdx] at hp
theorem rl_of {X : Cx} {B : Bk} {r : Rg} {pins : List (Addr × Obj)} {σ : L2.St} {H : Hp} {s : Shared} (I : Inv X pins σ H s) (hK : X.K = B.K) : ∀ {xs : List D} {a : Addr} {vs : List V} {u : Value}, SqL B.K H a vs → RVs B r H xs vs → RelV (.ref a) u → pdxs xs = true → (PyData.list (toPs xs)).showable = true → (PyData.list (toPs xs)).shown.length ≤ sizeLine →
    ∃ as bs, Reads s.heap u (.list (toPs xs)) as ∧ ReadAtMost s.heap (PyData.list (toPs xs)).depth bs ∧ ReprK X.prog X.w bs s.heap (PyData.list (toPs xs)).depth u (PyData.list (toPs xs)).shown
  | xs, a, vs, u, hq, hr, ru, hp, hs, hz => by
    cases ru
    obtain ⟨its, rv, ⟨o, n, ho, hc, _, hd⟩, _⟩ := I.list (by rw [hK]; exact hq)
    simp only [PyData.shown] at hz ⊢
    obtain ⟨as, bs, h1, h2, h3⟩ := rks_of I hK xs _ _ hr rv hp (by simpa [PyData.showable] using hs) fun t ht => Nat.le_trans (listText_mem_le ht) hz
    have rd : Reads s.heap (.ref a) (.list (toPs xs)) (a :: as) := .list ho hc hd h1
    have na := not_mem_of_deeper rd (n := PyData.depthAll (toPs xs)) (by simp only [PyData.depth]; omega) h2
    refine ⟨a :: as, a :: bs, rd, ReadAtMost.cons rd (by simp only [PyData.depth]; omega) h2, ?_⟩
    simp only [PyData.depth]
    cases its with
    | nil =>
      cases rv
      cases hr
      simp only [toPs, PyData.shownAll, listText_nil]
      exact ReprK.listEmpty ho hc hd
    | cons x l => exact ReprK.list ho hc hd na (by simpa using h3.length_eq) fun i y z => h3.item i y (by simpa using z)
theorem rks_of {X : Cx} {B : Bk} {r : Rg} {pins : List (Addr × Obj)} {σ : L2.St} {H : Hp} {s : Shared} (I : Inv X pins σ H s) (hK : X.K = B.K) : ∀ (ds : List D) (vs : List V) (us : List Value), RVs B r H ds vs → Vals vs us → pdxs ds = true → PyData.showableAll (toPs ds) = true → (∀ t ∈ PyData.shownAll (toPs ds), t.length ≤ sizeLine) →
    ∃ as bs, ReadsAll s.heap us (toPs ds) as ∧ ReadAtMost s.heap (PyData.depthAll (toPs ds)) bs ∧ ReprAllK X.prog X.w bs s.heap (PyData.depthAll (toPs ds)) us (PyData.shownAll (toPs ds))
  | [], _, _, hv, ru, _, _, _ => by
    cases hv; cases ru
    exact ⟨_, [], .nil, rm_nil, .nil⟩
  | d :: ds, _, _, hv, ru, hp, hs, hz => by
    cases hv with
    | cons v1 v2 =>
      cases ru with
      | cons r1 r2 =>
        have hp' : pdx d = true ∧ pdxs ds = true := by simpa [pdxs] using hp
        have hs' : (toP d).showable = true ∧ PyData.showableAll (toPs ds) = true := by simpa [toPs, PyData.showableAll] using hs
        simp only [toPs, PyData.shownAll, List.mem_cons] at hz
        obtain ⟨a1, b1, q1, q2, q3⟩ := rk_of I hK d _ _ v1 r1 hp'.1 hs'.1 (hz _ (.inl rfl))
        obtain ⟨a2, b2, p1, p2, p3⟩ := rks_of I hK ds _ _ v2 r2 hp'.2 hs'.2 fun t ht => hz t (.inr ht)
        refine ⟨a1 ++ a2, b1 ++ b2, .cons q1 p1, fun b hb => ?_, ?_⟩
        · simp only [toPs, PyData.depthAll]
          rcases List.mem_append.mp hb with z | z
          · obtain ⟨y1, y2, y3, y4⟩ := q2 b z
            exact ⟨y1, y2, y3, Nat.le_trans y4 (Nat.le_max_left _ _)⟩
          · obtain ⟨y1, y2, y3, y4⟩ := p2 b z
            exact ⟨y1, y2, y3, Nat.le_trans y4 (Nat.le_max_right _ _)⟩
        · simp only [toPs, PyData.depthAll, PyData.shownAll]
          exact .cons ((q3.more fun b hb => List.mem_append_left _ hb).level_le (Nat.le_max_left _ _)) (p3.more_le (fun b hb => List.mem_append_right _ hb) (Nat.le_max_right _ _))
end
/-- a list's own repr -/
theorem repr_lst {X : Cx} {B : Bk} {r : Rg} {pins : List (Addr × Obj)} {σ : L2.St} {H : Hp} {s : Shared} {xs : List D} {a : Addr} {vs : List V} {Q' : Value → Shared → Prop} (I : Inv X pins σ H s) (hK : X.K = B.K) (hg : X.A.guards = some []) (hq : SqL B.K H a vs) (hr : RVs B r H xs vs) (hp : pdxs xs = true)
    (hs : (PyData.list (toPs xs)).showable = true) (hz : (PyData.list (toPs xs)).shown.length ≤ sizeLine) (room : X.A.in1.units + (PyData.list (toPs xs)).depth < cLine)
    (hQ : ∀ h' t tk, (∀ b o, s.heap.get? b = some o → h'.get? b = some o) → Q' (.str (PyData.list (toPs xs)).shown t) { s with heap := h', toks := tk }) : s.TypeIs (.ref a) "list" ∧ wpAny (model X.prog X.w) X.A.in1 (call (.builtin "list.__repr__") [.ref a]) Q' X.xe s := by
  obtain ⟨its, rv, ⟨o, n, ho, hc, _, hd⟩, _⟩ := I.list (by rw [hK]; exact hq)
  simp only [PyData.shown, PyData.depth] at hz hQ room
  obtain ⟨as, bs, k1, k2, k3⟩ := rks_of I hK xs _ _ hr rv hp (by simpa [PyData.showable] using hs) fun t ht => Nat.le_trans (listText_mem_le ht) hz
  have rd : Reads s.heap (.ref a) (.list (toPs xs)) (a :: as) := .list ho hc hd k1
  have na := not_mem_of_deeper rd (n := PyData.depthAll (toPs xs)) (by simp only [PyData.depth]; omega) k2
  refine ⟨⟨o, ho, hc⟩, ?_⟩
  cases its with
  | nil =>
    cases rv
    cases hr
    simp only [toPs, PyData.shownAll, listText_nil] at hQ
    exact call_list_repr_empty ⟨o, ho, hc⟩ ho hd (hQ s.heap _ _ fun _ _ e => e)
  | cons x l => exact call_list_reprK ho hc hd na (by simpa using k3.length_eq) (fun i y z => k3.item i y (by simpa using z)) hg (fun b _ => Clear.nil b) room (fun _ _ e => e) hQ hz
theorem rd_alt {B : Bk} {r : Rg} {S : Store} {H : Hp} {x : D} {v : V} (s : RS B r S H) (hx : RV B r H x v) (h : pdx (rd S x) = true) : (∃ a xs vs, v = .ref a ∧ rd S x = .lst xs ∧ SqL B.K H a vs ∧ RVs B r H xs vs) ∨ RV B r H (rd S x) v := by
  cases x with
  | ref n =>
    cases hx with
    | ref hr =>
      rename_i a
      simp only [rd] at h ⊢
      cases q : S[n]? with
      | none => rw [q] at h; simp [pdx] at h
      | some c =>
        rw [q] at h
        have k := s.at_ n c a q hr
        cases k with
        | lst h1 h2 => exact .inl ⟨a, _, _, rfl, rfl, .of h1, h2⟩
        | ins _ _ _ _ => simp [pdx] at h
        | dct _ _ _ => simp [pdx] at h
        | dctL _ _ _ => simp [pdx] at h
  | _ => exact .inr hx

section
variable {B : Bk} {X : Cx}
theorem CallR.imp {f : Value} {a b : List V → Hp → VK → Prop} (h : CallR X f a) (k : ∀ vs H Q, b vs H Q → a vs H Q) : CallR X f b :=
  fun pins s σ H xs us Q I rv q => h pins s σ H xs us Q I rv (k _ _ _ q)
theorem RVs.one {r : Rg} {H : Hp} {d : D} {vs : List V} (h : RVs B r H [d] vs) : ∃ v, vs = [v] ∧ RV B r H d v := by
  cases h with
  | cons h1 h2 => cases h2; exact ⟨_, rfl, h1⟩
theorem RVs.two {r : Rg} {H : Hp} {d e : D} {vs : List V} (h : RVs B r H [d, e] vs) : ∃ v u, vs = [v, u] ∧ RV B r H d v ∧ RV B r H e u := by
  cases h with
  | cons h1 h2 =>
    obtain ⟨u, rfl, h3⟩ := h2.one
    exact ⟨_, _, rfl, h1, h3⟩
/-- one of the calls that a built-in function serves: f is its value -/
def biVal : Bi → Value
  | .abs => .builtin "abs" | .isqrt => .builtin "math.isqrt" | .max2 => .builtin "max" | .min2 => .builtin "min" | .int => .type "int" | .len => .builtin "len" | .repr => .builtin "repr" | .sum => .builtin "sum"
  | .max => .builtin "max" | .min => .builtin "min" | .maxd => .builtin "max" | .max3 => .builtin "max" | .mind => .builtin "min" | .tuple => .type "tuple" | .all => .builtin "all" | .any => .builtin "any" | .bool => .type "bool" | .str => .type "str"
theorem abs_if (i : Int) : (if i < 0 then -i else i) = ((i.natAbs : Nat) : Int) := by split <;> omega
theorem max_if (i j : Int) : (if j > i then j else i) = max i j := by simp only [Int.max_def]; split <;> split <;> omega
theorem min_if (i j : Int) : (if j < i then j else i) = min i j := by simp only [Int.min_def]; split <;> split <;> omega
theorem bi_abs : CallR X (.builtin "abs") (LCop B (wBi .abs)) := by
  refine CallR.imp (call_abs (X := X)) fun vs H Q ⟨r, S, ds, F, hS, hs, hw, hf⟩ => ?_
  unfold wBi at hw
  split at hw
  all_goals try contradiction
  obtain ⟨v, rfl, h1⟩ := hs.one
  cases h1
  refine ⟨_, rfl, ?_⟩
  rw [abs_if]
  exact hf.int hS hw
theorem bi_isqrt : CallR X (.builtin "math.isqrt") (LCop B (wBi .isqrt)) := by
  intro pins s σ H xs us Q I rv ⟨r, S, ds, F, hS, hs, hw, hf⟩
  unfold wBi at hw
  split at hw
  all_goals try contradiction
  obtain ⟨v, rfl, h1⟩ := hs.one
  cases h1
  obtain ⟨u, rfl, t, rfl⟩ := vals1 rv
  obtain ⟨⟨h0, h1⟩, h2⟩ := hw
  exact call_function_meets W.MGF.kind_isqrt W.MGF.plain_isqrt W.MGF.entry_isqrt (W.MGF.args_isqrt _) (PySem.W.mg_run_isqrt _ t (by omega) (by omega) (by omega)).meets ⟨.int _, H, I.tok _, ⟨_, rfl⟩, hf.int hS h2⟩
theorem bi_max2 (hc : X.calm = true) : CallR X (.builtin "max") (LCop B (wBi .max2)) := by
  refine CallR.imp (call_max2 hc) fun vs H Q ⟨r, S, ds, F, hS, hs, hw, hf⟩ => ?_
  unfold wBi at hw
  split at hw
  all_goals try contradiction
  obtain ⟨v, u, rfl, h1, h2⟩ := hs.two
  cases h1; cases h2
  refine ⟨_, _, rfl, ?_⟩
  rw [max_if]
  exact hf.int hS hw
theorem bi_max3 (hc : X.calm = true) : CallR X (.builtin "max") (LCop B (wBi .max3)) := by
  intro pins s σ H xs us Q I rv ⟨r, S, ds, F, hS, hs, hw, hf⟩
  unfold wBi at hw
  split at hw
  all_goals try contradiction
  cases hs with
  | cons h1 hs =>
    obtain ⟨v, u, rfl, h2, h3⟩ := hs.two
    cases h1; cases h2; cases h3
    cases rv with
    | cons r1 rv =>
      obtain ⟨u2, u3, rfl, ⟨t2, rfl⟩, ⟨t3, rfl⟩⟩ := vals2 rv
      obtain ⟨t1, rfl⟩ := r1
      refine max_three_ints (I.ok.hd hc) fun h' tk k => ⟨_, H, I.kept k, ?_, hf.int hS hw⟩
      split
      · split
        · exact ⟨_, by congr 1; omega⟩
        · exact ⟨_, by congr 1; omega⟩
      · split
        · exact ⟨_, by congr 1; omega⟩
        · exact ⟨_, by congr 1; omega⟩
theorem bi_min2 (hc : X.calm = true) : CallR X (.builtin "min") (LCop B (wBi .min2)) := by
  refine CallR.imp (call_min2 hc) fun vs H Q ⟨r, S, ds, F, hS, hs, hw, hf⟩ => ?_
  unfold wBi at hw
  split at hw
  all_goals try contradiction
  obtain ⟨v, u, rfl, h1, h2⟩ := hs.two
  cases h1; cases h2
  refine ⟨_, _, rfl, ?_⟩
  rw [min_if]
  exact hf.int hS hw
theorem bi_int : CallR X (.type "int") (LCop B (wBi .int)) := by
  refine CallR.imp (CallR.or (call_int1 (X := X)) (call_int_str (X := X))) fun vs H Q ⟨r, S, ds, F, hS, hs, hw, hf⟩ => ?_
  unfold wBi at hw
  split at hw
  all_goals try contradiction
  · obtain ⟨v, rfl, h1⟩ := hs.one
    cases h1
    exact .inl (.inl ⟨_, rfl, hf.int hS hw⟩)
  · obtain ⟨v, rfl, h1⟩ := hs.one
    cases h1
    exact .inl (.inr ⟨_, rfl, hf.int hS hw⟩)
  · obtain ⟨v, rfl, h1⟩ := hs.one
    cases h1
    obtain ⟨n, h1, h2, h3⟩ := hw
    exact .inr ⟨_, _, rfl, h1, h2, hf.int hS h3⟩
theorem bi_len (hK : X.K = B.K) : CallR X (.builtin "len") (LCop B (wBi .len)) := by
  refine CallR.imp ((call_len (X := X)).or (len_K (X := X))) fun vs H Q ⟨r, S, ds, F, hS, hs, hw, hf⟩ => ?_
  unfold wBi at hw
  split at hw
  all_goals try contradiction
  · obtain ⟨v, rfl, h1⟩ := hs.one
    cases h1
    exact .inl ⟨_, _, rfl, ⟨hw.1, rfl⟩, hf.int hS hw.2⟩
  · obtain ⟨v, rfl, h1⟩ := hs.one
    obtain ⟨n, h2, h3⟩ := hw
    unfold lnOf at h2
    split at h2
    · rename_i es h4
      cases h2
      obtain ⟨a, vs, rfl, k, hv⟩ := sqOf_at hS h4 h1
      refine .inl ⟨_, es.length, rfl, ?_, hf.int hS h3⟩
      rcases k with k | k
      · exact .inl ⟨vs, by rw [hK]; exact k, hv.length⟩
      · exact .inr ⟨vs, by rw [hK]; exact k, hv.length⟩
    · simp only [Option.map_eq_some_iff] at h2
      obtain ⟨⟨ks, es⟩, h4, rfl⟩ := h2
      obtain ⟨a, vs, rfl, l, k, hv⟩ := dcOf_at hS h4 h1
      refine .inr ⟨a, _, rfl, k, ?_⟩
      have e : (ks.zip vs).length = ks.length := by rw [List.length_zip, ← hv.length, l]; simp
      rw [e]
      exact hf.int hS h3
theorem noDict_of {x : D} (h : pd x = true) : (toP x).hasDict = false := PyData.hasDict_of_canLay _ (can_of x h)
theorem bi_repr (hK : X.K = B.K) (hg : X.A.guards = some []) (hu : X.A.units + 65 < cLine) : CallR X (.builtin "repr") (LCop B (wBi .repr)) := by
  intro pins s σ H xs us Q I rv ⟨r, S, ds, F, hS, hs, hw, hf⟩
  unfold wBi at hw
  split at hw
  all_goals try contradiction
  rename_i x _
  obtain ⟨v, rfl, h1⟩ := hs.one
  obtain ⟨u, rfl, ru⟩ := vals1 rv
  obtain ⟨⟨h2, h6⟩, h3, h4, h5⟩ := hw
  have hz := Nat.le_trans (shown_len _ h2 h3) h4
  have hsh := showable_of _ h2 h3
  have done : ∀ h' t tk, (∀ b o, s.heap.get? b = some o → h'.get? b = some o) → EP X pins σ Q (.str (toP (rd S x)).shown t) { s with heap := h', toks := tk } := fun h' t tk hk => ⟨.str _, H, I.kept (t' := tk) hk, ⟨_, rfl⟩, hf.str hS h5⟩
  have alt := rd_alt hS h1 h2
  clear h5 h3 h4
  generalize rd S x = d' at *
  have room : X.A.in1.units + (toP d').depth < cLine := by show X.A.units + 1 + _ < cLine; omega
  have atRef : ∀ {a : Addr} {T idr : String}, s.TypeIs (.ref a) T → SlotG T "__repr__" idr → (∀ (Q' : Value → Shared → Prop), (∀ h' t tk, (∀ b o, s.heap.get? b = some o → h'.get? b = some o) → Q' (.str (toP d').shown t) { s with heap := h', toks := tk }) → wpAny (model X.prog X.w) X.A.in1 (call (.builtin idr) [.ref a]) Q' X.xe s) → wpAny (model X.prog X.w) X.A (call (.builtin "repr") [.ref a]) (EP X pins σ Q) X.xe s := fun ty sl hc =>
    call_repr_slot (by omega) ty sl (hc _ fun h' t tk hk => ⟨_, _, rfl, done h' t tk hk⟩)
  have lists : ∀ {xs : List D} {a : Addr} {vs : List V}, toP d' = .list (toPs xs) → SqL B.K H a vs → RVs B r H xs vs → pdxs xs = true → wpAny (model X.prog X.w) X.A (call (.builtin "repr") [.ref a]) (EP X pins σ Q) X.xe s := fun {xs a vs} e hq hr hp => by
    rw [e] at hz hsh room atRef
    obtain ⟨its, rv2, ⟨o, n, ho, hc, _, hd⟩, _⟩ := I.list (by rw [hK]; exact hq)
    exact atRef ⟨o, ho, hc⟩ PySem.F.slot_list_repr.toG fun Q' hQ' => (repr_lst I hK hg hq hr hp hsh hz room hQ').2
  rcases alt with ⟨a, xs, vs, rfl, rfl, hq, hr⟩ | hv'
  · cases ru
    exact lists rfl hq hr (by simpa [pdx] using h2)
  · cases d' with
    | non => cases hv'; cases ru; exact PySem.P.repr_of_none (done s.heap _ _ fun _ _ e => e)
    | bl b => cases hv'; cases ru; exact PySem.P.repr_of_bool (by cases b <;> exact done s.heap _ _ fun _ _ e => e)
    | int i => cases hv'; obtain ⟨t, rfl⟩ := ru; exact PySem.P.repr_of_int (of_decide_eq_true hsh) (done s.heap _ _ fun _ _ e => e)
    | str x => cases hv'; obtain ⟨t, rfl⟩ := ru; exact PySem.P.repr_of_str (done s.heap _ _ fun _ _ e => e) hz
    | tup xs =>
      obtain ⟨a, vs, rfl, hq, hr⟩ := tup_at hv'
      cases ru
      obtain ⟨its, rv2, ⟨o, ho, hc, n, hd⟩, _⟩ := I.tuple (by rw [hK]; exact hq)
      simp only [toP, PyData.shown, PyData.depth] at hz room atRef
      obtain ⟨as, bs, k1, k2, k3⟩ := rks_of I hK xs _ _ hr rv2 (by simpa [pdx] using h2) (by simpa [toP, PyData.showable] using hsh) fun t ht => Nat.le_trans (tupleText_mem_le ht) hz
      have rd : Reads s.heap (.ref a) (.tuple (toPs xs)) as := .tuple ho hc hd k1
      have na := not_mem_of_deeper rd (n := PyData.depthAll (toPs xs)) (by simp only [PyData.depth]; omega) k2
      exact atRef ⟨o, ho, hc⟩ PySem.F.slot_tuple_repr fun Q' hQ' => call_tuple_reprK ho hc hd na k3 hg (fun b _ => Clear.nil b) room (fun _ _ e => e) hQ' hz
    | lst xs =>
      cases hv' with
      | lst nn hH hr => cases ru; exact lists rfl (.of hH) hr (by simpa [pdx] using h2)
    | rol xs =>
      cases hv' with
      | rol nn hH hr => cases ru; exact lists rfl (.inl hH) hr (by simpa [pdx] using h2)
      | rolK hH hr => cases ru; exact lists rfl (hH H) hr (by simpa [pdx] using h2)
    | dct ks ds =>
      have hp' : ks = [] ∧ ds = [] := by simpa [pdx] using h2
      obtain ⟨rfl, rfl⟩ := hp'
      cases hv' with
      | @dct _ a vs _ nn l hr hs =>
        cases ru
        cases hs
        obtain ⟨_, sy, ws, kv, o, es, ep, ho, ⟨c, _, _⟩, hd, _, pr, _⟩ := dk_rd I.hok hr
        cases kv
        have e0 : es.toList = [] := List.eq_nil_of_length_eq_zero (by have := pr.length; simpa using this)
        exact atRef ⟨o, ho, c⟩ PySem.F.slot_dict_repr fun Q' hQ' => call_dict_reprK (as := []) (d := 0) ho c hd sy (by simp) (by rw [e0]; exact .nil) hg (fun b _ => Clear.nil b) room (fun _ _ e => e) hQ' hz
    | ty _ => simp [pdx] at h2
    | ref _ => simp [pdx] at h2
    | ins _ _ _ => simp [pdx] at h2
    | exc _ _ _ _ _ => simp [pdx] at h2
theorem bi_str : CallR X (.type "str") (LCop B (wBi .str)) := by
  refine CallR.imp ((call_str_int (X := X)).or (SkE.call_str_str (X := X))) fun vs H Q ⟨r, S, ds, F, hS, hs, hw, hf⟩ => ?_
  unfold wBi at hw
  split at hw
  all_goals try contradiction
  · obtain ⟨v, rfl, h1⟩ := hs.one
    cases h1
    exact .inl ⟨_, rfl, hw.1, hf.str hS hw.2⟩
  · obtain ⟨v, rfl, h1⟩ := hs.one
    cases h1
    exact .inr ⟨_, rfl, hf.str hS hw⟩
theorem bi_tuple (hK : X.K = B.K) : CallR X (.type "tuple") (LCop B (wBi .tuple)) := by
  refine CallR.imp (call_tuple_of (X := X)) fun vs H Q ⟨r, S, ds, F, hS, hs, hw, hf⟩ => ?_
  unfold wBi at hw
  split at hw
  all_goals try contradiction
  · obtain ⟨v, rfl, h1⟩ := hs.one
    obtain ⟨a, ws, rfl, k, hv⟩ := tup_at h1
    exact ⟨a, ws, rfl, .inr ⟨by rw [hK]; exact k, hf.here hS hw h1⟩⟩
  · obtain ⟨v, rfl, h1⟩ := hs.one
    obtain ⟨es, h2, h3⟩ := hw
    obtain ⟨a, ws, rfl, k, hv⟩ := lsOf_at hS h2 h1
    exact ⟨a, ws, rfl, .inl ⟨by rw [hK]; exact k, hf.tup hS h3 hv⟩⟩
theorem toPs_map : ∀ ds : List D, toPs ds = ds.map toP
  | [] => rfl
  | d :: ds => by simp only [toPs, List.map_cons, toPs_map ds]
theorem RVs.ints {r : Rg} {H : Hp} : ∀ {ds : List D} {vs : List V} {ns : List Int}, RVs B r H ds vs → intsOf ds = some ns → vs = ns.map V.int ∧ ds = ns.map D.int
  | [], _, ns, h, e => by cases h; cases e; exact ⟨rfl, rfl⟩
  | d :: ds, _, ns, h, e => by
    cases h with
    | cons h1 h2 =>
      cases d <;> simp only [intsOf] at e <;> try contradiction
      rename_i i
      obtain ⟨ms, h3, rfl⟩ := Option.map_eq_some_iff.mp e
      obtain ⟨a, b⟩ := RVs.ints h2 h3
      subst a b
      cases h1
      exact ⟨rfl, rfl⟩
theorem RVs.bls {r : Rg} {H : Hp} : ∀ {ds : List D} {vs : List V} {ns : List Bool}, RVs B r H ds vs → blsOf ds = some ns → vs = ns.map V.bl
  | [], _, ns, h, e => by cases h; cases e; rfl
  | d :: ds, _, ns, h, e => by
    cases h with
    | cons h1 h2 =>
      cases d <;> simp only [blsOf] at e <;> try contradiction
      rename_i i
      obtain ⟨ms, h3, rfl⟩ := Option.map_eq_some_iff.mp e
      have := RVs.bls h2 h3
      subst this
      cases h1
      rfl
theorem rvs_intsB {r : Rg} {H : Hp} : ∀ ns : List Int, RVs B r H (ns.map D.int) (ns.map V.int)
  | [] => .nil
  | n :: r => .cons (.int n) (rvs_intsB r)
/-- a list or a tuple, as it is walked -/
theorem iter_sq {prog : Program} {w : World} {A : Around} {E : Value → Shared → Prop} {s : Shared} {l : Addr} {items : Array Value} {Q : Value → Shared → Prop} (hh : A.handled = none) (hl : s.heap.IsList l items ∨ s.heap.IsTuple l items)
    (h : ∀ (St : Nat → Heap → Prop) (o : Obj), Walks prog w A s.heap.objs.size [s.heap.objs.size, l] [s.heap.objs.size] items.size (fun i v => items[i]? = some v) St → St 0 (s.heap.push o) → (∀ b ∈ [s.heap.objs.size, l], b < (s.heap.push o).objs.size) → (∀ b ob, s.heap.get? b = some ob → (s.heap.push o).get? b = some ob) → Q (.ref s.heap.objs.size) { s with heap := s.heap.push o }) :
    wpAny (model prog w) A (pyIter (.ref l)) Q E s := by
  have hlt : l < s.heap.objs.size := by
    rcases hl with ⟨_, e, _⟩ | ⟨_, e, _⟩ <;> exact Heap.lt_size e
  have hb : ∀ o : Obj, ∀ b ∈ [s.heap.objs.size, l], b < (s.heap.push o).objs.size := fun o b hb => by
    rw [Heap.size_push]
    rcases List.mem_cons.mp hb with rfl | hb
    · exact Nat.lt_succ_self _
    · rw [List.mem_singleton.mp hb]; exact Nat.lt_succ_of_lt hlt
  rcases hl with hl | hl
  · exact wpAny_pyIter_list hl (h _ _ (Walks.list (A := A) hh _ l (Nat.ne_of_lt hlt) items) ⟨⟨_, Heap.get?_push_size _ rfl, rfl, rfl⟩, hl.push _⟩ (hb _) fun b o e => Heap.get?_push_of_some _ e)
  · exact wpAny_pyIter_tuple hl (h _ _ (Walks.tuple (A := A) hh _ l (Nat.ne_of_lt hlt) items) ⟨⟨_, Heap.get?_push_size _ rfl, rfl, rfl⟩, hl.push _⟩ (hb _) fun b o e => Heap.get?_push_of_some _ e)
theorem old_of {s : Shared} {o : Obj} {h' : Heap} (hk0 : ∀ b ob, s.heap.get? b = some ob → (s.heap.push o).get? b = some ob) (hk : ∀ b ob, b ∉ [s.heap.objs.size] → (s.heap.push o).get? b = some ob → h'.get? b = some ob) :
    ∀ b ob, s.heap.get? b = some ob → h'.get? b = some ob := fun b ob e => hk b ob (fun hm => by
      rw [List.mem_singleton.mp hm] at e
      exact absurd (Heap.lt_size e) (Nat.lt_irrefl _)) (hk0 b ob e)
/-- .. where it stands -/
theorem sq_heap {pins : List (Addr × Obj)} {σ : L2.St} {H : Hp} {s : Shared} {a : Addr} {vs : List V} (I : Inv X pins σ H s) (hK : X.K = B.K) (k : SqL B.K H a vs ∨ SqT B.K H a vs) : ∃ its : List Value, Vals vs its ∧ (s.heap.IsList a its.toArray ∨ s.heap.IsTuple a its.toArray) := by
  rw [← hK] at k
  rcases k with k | k
  · obtain ⟨its, rv, p, _⟩ := I.list k
    exact ⟨its, rv, .inl p.isList⟩
  · obtain ⟨its, rv, p, _⟩ := I.tuple k
    exact ⟨its, rv, .inr p⟩
theorem preSum_take (ns : List Int) : ∀ j, j ≤ ns.length → preSum (fun i => ns.getD i 0) j = (ns.take j).sum
  | 0, _ => by simp [preSum]
  | j + 1, h => by
    have e : ns[j]? = some ns[j] := List.getElem?_eq_getElem (by omega)
    have e2 : ns.getD j 0 = ns[j] := by rw [List.getD_eq_getElem?_getD, e]; rfl
    rw [preSum, preSum_take ns j (by omega), List.take_add_one, e, List.sum_append, e2]
    simp only [Option.toList_some, List.sum_cons, List.sum_nil, Int.add_zero]
theorem bi_sum (hK : X.K = B.K) (hc : X.calm = true) : CallR X (.builtin "sum") (LCop B (wBi .sum)) := by
  intro pins s σ H xs us Q I rv ⟨r, S, ds, F, hS, hs, hw, hf⟩
  unfold wBi at hw
  split at hw
  all_goals try contradiction
  obtain ⟨v, rfl, h1⟩ := hs.one
  obtain ⟨u, rfl, ru⟩ := vals1 rv
  obtain ⟨ds, ns, h2, h3, h4⟩ := hw
  obtain ⟨a, vs, rfl, k, hv⟩ := sqOf_at hS h2 h1
  obtain ⟨rfl, rfl⟩ := hv.ints h3
  cases ru
  obtain ⟨its, ri, hl⟩ := sq_heap I hK k
  have hlen := ri.length
  rw [List.length_map] at hlen
  refine call_sum_walkG (iter_sq (A := X.A.in1) (I.ok.hd hc) hl fun St o W st hb hk0 => ?_)
  refine ⟨_, _, _, _, _, _, fun i => ns.getD i 0, rfl, W, st, hb, fun i v hi => ?_, fun h' tk t' hk => ?_⟩
  · have hi' : its[i]? = some v := by simpa using hi
    have hlt : i < its.length := (List.getElem?_eq_some_iff.mp hi').1
    obtain ⟨w, q1, q2⟩ := ri.get (i := i) (x := .int (ns.getD i 0)) (by
      have : i < ns.length := by omega
      rw [List.getElem?_map, List.getElem?_eq_getElem this]
      simp [List.getD_eq_getElem?_getD, List.getElem?_eq_getElem this])
    rw [hi'] at q1; cases q1
    exact q2
  · rw [List.size_toArray, ← hlen, preSum_take ns ns.length (Nat.le_refl _), List.take_length]
    exact ⟨.int _, H, I.kept (t' := tk) (old_of hk0 hk), ⟨_, rfl⟩, hf.int hS h4⟩
theorem bi_allany (hK : X.K = B.K) (hc : X.calm = true) (g : Bool) : CallR X (.builtin (if g then "all" else "any")) (LCop B (wBi (if g then .all else .any))) := by
  intro pins s σ H xs us Q I rv ⟨r, S, ds, F, hS, hs, hw, hf⟩
  cases g
  all_goals
    simp only [Bool.false_eq_true, if_false, if_true] at hw ⊢
    unfold wBi at hw
    split at hw
    all_goals try contradiction
    obtain ⟨v, rfl, h1⟩ := hs.one
    obtain ⟨u, rfl, ru⟩ := vals1 rv
    obtain ⟨ds, bs, h2, h3, h4⟩ := hw
    obtain ⟨a, vs, rfl, k, hv⟩ := sqOf_at hS h2 h1
    have hvb := hv.bls h3
    subst hvb
    cases ru
    obtain ⟨its, ri, hl⟩ := sq_heap I hK k
    have hb' := ri.bls
    have hlen := ri.length
    rw [List.length_map] at hlen
    first
      | refine call_any_walk (iter_sq (A := X.A.in1) (I.ok.hd hc) hl fun St o W st hb hk0 => ?_)
      | refine call_all_walk (iter_sq (A := X.A.in1) (I.ok.hd hc) hl fun St o W st hb hk0 => ?_)
    refine ⟨_, _, _, _, _, _, _, rfl, W, st, truth_bools hb', fun h' tk hk => ?_⟩
    refine ⟨.bl _, H, I.kept (t' := tk) (old_of hk0 hk), ?_, hf.bl hS h4⟩
    show Value.bool _ = Value.bool _
    rw [List.size_toArray, ← hlen]
    first | rw [L2.any_range] | rw [L2.all_range]
theorem dpAll_len {K : PySem.W.Frag} {H : Hp} : ∀ {vs : List V} {ps : List PyData}, DpAll K H vs ps → vs.length = ps.length
  | _, _, .nil => rfl
  | _, _, .cons _ h => by simp [dpAll_len h]
theorem depthAll_le {ds : List D} (h : okD (.lst ds)) : PyData.depthAll (toPs ds) ≤ 59 := by
  have := h.2
  simp only [toP, PyData.depth] at this
  omega
/-- the item that a walk has found -/
theorem item_at {pins : List (Addr × Obj)} {σ : L2.St} {H : Hp} {s : Shared} {r : Rg} {S : Store} {ds : List D} {vs : List V} {its : List Value} {F : Post} {Q : VK} {i : Nat} {v : Value} (I : Inv X pins σ H s) (hS : RS B r S H) (hv : RVs B r H ds vs) (ri : Vals vs its) (hf : Fn B r H F Q) (hi : its.toArray[i]? = some v)
    (h : ∀ e, ds[i]? = some e → F e S) : ∃ w H', Inv X pins σ H' s ∧ RelV w v ∧ Q w H' := by
  have hi' : its[i]? = some v := by simpa using hi
  have hlt : i < vs.length := by rw [ri.length]; exact (List.getElem?_eq_some_iff.mp hi').1
  obtain ⟨w, q1, q2⟩ := ri.get (List.getElem?_eq_getElem hlt)
  rw [hi'] at q1; cases q1
  obtain ⟨e, h1, h2⟩ := hv.getV (List.getElem?_eq_getElem hlt)
  exact ⟨_, H, I, q2, hf.here hS (h e h1) h2⟩
theorem bi_max (hK : X.K = B.K) (hc : X.calm = true) (hu : X.A.units + 65 < cLine) : CallR X (.builtin "max") (LCop B (wBi .max)) := by
  intro pins s σ H xs us Q I rv ⟨r, S, ds, F, hS, hs, hw, hf⟩
  unfold wBi at hw
  split at hw
  all_goals try contradiction
  obtain ⟨v, rfl, h1⟩ := hs.one
  obtain ⟨u, rfl, ru⟩ := vals1 rv
  obtain ⟨d, ds, h2, h3, h4, h5⟩ := hw
  obtain ⟨a, vs, rfl, k, hv⟩ := sqOf_at hS h2 h1
  cases ru
  obtain ⟨its, ri, hl⟩ := sq_heap I hK k
  obtain ⟨as, rd⟩ := Dp.readsAll I _ vs its (by rw [hK]; exact dps_of (d :: ds) vs hv (by simpa [pd] using h3.1)) ri
  have hlen : its.length = ds.length + 1 := by rw [← ri.length, ← hv.length]; rfl
  have hdep := depthAll_le h3
  refine call_max_walkH (iter_sq (A := X.A.in1) (I.ok.hd hc) hl fun St o W st hb hk0 => ?_)
  refine ⟨_, _, _, _, _, _, _, s.heap, _, rfl, W.toS, st, hb, by rw [List.size_toArray]; omega, fun b o' e hm => ?_, hk0, PySem.W.cmpIn_gt (A := X.A.in1) (vs := its.toArray) (by simpa using rd) h4 (by show X.A.units + 1 + _ < _; omega), fun v s' hP m => ?_⟩
  · rw [List.mem_singleton.mp hm] at e
    exact absurd (Heap.lt_size e) (Nat.lt_irrefl _)
  · obtain ⟨h', tk, rfl, hk'⟩ := PySem.W.moved_old rfl rfl m
    refine item_at (I.kept (t' := tk) hk') hS hv ri hf hP fun e he => h5 e (List.mem_of_getElem? he) ?_
    have e1 : its.toArray.size - 1 = (toPs ds).length := by rw [List.size_toArray, toPs_map, List.length_map]; omega
    have e2 := (PySem.W.argBest_fold (fun a b => PySem.W.dataLt b a) PyData.none (toP d) (toPs ds) (toPs ds).length (Nat.le_refl _)).2
    rw [List.take_length, ← e1] at e2
    unfold PySem.W.maxD
    rw [← e2]
    have e3 : (toP d :: toPs ds) = (d :: ds).map toP := by rw [toPs_map]; rfl
    rw [e3, List.getD_eq_getElem?_getD, List.getElem?_map]
    have e4 : (d :: ds)[argBest (fun i j => PySem.W.dataLt (((d :: ds).map toP).getD j PyData.none) (((d :: ds).map toP).getD i PyData.none)) (its.toArray.size - 1)]? = some e := by
      rw [← e3]; exact he
    rw [e4]; rfl
theorem bi_min (hK : X.K = B.K) (hc : X.calm = true) (hu : X.A.units + 65 < cLine) : CallR X (.builtin "min") (LCop B (wBi .min)) := by
  intro pins s σ H xs us Q I rv ⟨r, S, ds, F, hS, hs, hw, hf⟩
  unfold wBi at hw
  split at hw
  all_goals try contradiction
  obtain ⟨v, rfl, h1⟩ := hs.one
  obtain ⟨u, rfl, ru⟩ := vals1 rv
  obtain ⟨d, ds, h2, h3, h4, h5⟩ := hw
  obtain ⟨a, vs, rfl, k, hv⟩ := sqOf_at hS h2 h1
  cases ru
  obtain ⟨its, ri, hl⟩ := sq_heap I hK k
  obtain ⟨as, rd⟩ := Dp.readsAll I _ vs its (by rw [hK]; exact dps_of (d :: ds) vs hv (by simpa [pd] using h3.1)) ri
  have hlen : its.length = ds.length + 1 := by rw [← ri.length, ← hv.length]; rfl
  have hdep := depthAll_le h3
  refine call_min_walkH (iter_sq (A := X.A.in1) (I.ok.hd hc) hl fun St o W st hb hk0 => ?_)
  refine ⟨_, _, _, _, _, _, _, s.heap, _, rfl, W.toS, st, hb, by rw [List.size_toArray]; omega, fun b o' e hm => ?_, hk0, PySem.W.cmpIn_lt (A := X.A.in1) (vs := its.toArray) (by simpa using rd) h4 (by show X.A.units + 1 + _ < _; omega), fun v s' hP m => ?_⟩
  · rw [List.mem_singleton.mp hm] at e
    exact absurd (Heap.lt_size e) (Nat.lt_irrefl _)
  · obtain ⟨h', tk, rfl, hk'⟩ := PySem.W.moved_old rfl rfl m
    refine item_at (I.kept (t' := tk) hk') hS hv ri hf hP fun e he => h5 e (List.mem_of_getElem? he) ?_
    have e1 : its.toArray.size - 1 = (toPs ds).length := by rw [List.size_toArray, toPs_map, List.length_map]; omega
    have e2 := (PySem.W.argBest_fold (fun a b => PySem.W.dataLt a b) PyData.none (toP d) (toPs ds) (toPs ds).length (Nat.le_refl _)).2
    rw [List.take_length, ← e1] at e2
    unfold PySem.W.minD
    rw [← e2]
    have e3 : (toP d :: toPs ds) = (d :: ds).map toP := by rw [toPs_map]; rfl
    rw [e3, List.getD_eq_getElem?_getD, List.getElem?_map]
    have e4 : (d :: ds)[argBest (fun i j => PySem.W.dataLt (((d :: ds).map toP).getD i PyData.none) (((d :: ds).map toP).getD j PyData.none)) (its.toArray.size - 1)]? = some e := by
      rw [← e3]; exact he
    rw [e4]; rfl
/-- max(x, default=y) -/
def L2kw (B : Bk) (w : D → D → Store → Post → Prop) : List V → List V → Hp → VK → Prop := fun vs zs H Q => ∃ r S x y v u F, vs = [v] ∧ zs = [u] ∧ RS B r S H ∧ RV B r H x v ∧ RV B r H y u ∧ w x y S F ∧ Fn B r H F Q
theorem bk_max (hK : X.K = B.K) (hc : X.calm = true) (hu : X.A.units + 65 < cLine) : CallRK X (.builtin "max") [Str.ofString "default"] (L2kw B wMxd) := by
  rintro pins s σ H xs zs us ws Q I rv rz ⟨r, S, x, y, v, uy, F, rfl, rfl, hS, h1, hy, hw, hf⟩
  obtain ⟨u, rfl, ru⟩ := vals1 rv
  obtain ⟨d0, rfl, rd0⟩ := vals1 rz
  obtain ⟨ds, h2, h3, h4, h0, h5⟩ := hw
  obtain ⟨a, vs, rfl, k, hv⟩ := sqOf_at hS h2 h1
  cases ru
  obtain ⟨its, ri, hl⟩ := sq_heap I hK k
  obtain ⟨as, rd⟩ := Dp.readsAll I _ vs its (by rw [hK]; exact dps_of ds vs hv (by simpa [pd] using h3.1)) ri
  have hlen : its.length = ds.length := by rw [← ri.length, ← hv.length]
  have hdep := depthAll_le h3
  refine call_max_walkD (iter_sq (A := X.A.in1) (I.ok.hd hc) hl fun St o W st hb hk0 => ?_)
  refine ⟨_, _, _, _, _, _, _, s.heap, (fun i j => PySem.W.dataLt ((toPs ds).getD j .none) ((toPs ds).getD i .none)), rfl, W.toS, st, hb, fun b o' e hm => ?_, hk0, fun hz s' m => ?_, fun hp => ⟨PySem.W.cmpIn_gt (A := X.A.in1) (vs := its.toArray) (by simpa using rd) h4 (by show X.A.units + 1 + _ < _; omega), fun v s' hP m => ?_⟩⟩
  · rw [List.mem_singleton.mp hm] at e
    exact absurd (Heap.lt_size e) (Nat.lt_irrefl _)
  · obtain ⟨h', tk, rfl, hk'⟩ := PySem.W.moved_old rfl rfl m
    have : ds = [] := List.eq_nil_of_length_eq_zero (by rw [List.size_toArray] at hz; omega)
    exact ⟨_, H, I.kept (t' := tk) hk', rd0, hf.here hS (h0 this) hy⟩
  · obtain ⟨h', tk, rfl, hk'⟩ := PySem.W.moved_old rfl rfl m
    cases ds with
    | nil => rw [List.size_toArray, hlen] at hp; simp at hp
    | cons d ds =>
      refine item_at (I.kept (t' := tk) hk') hS hv ri hf hP fun e he => h5 d ds e rfl (List.mem_of_getElem? he) ?_
      have e1 : its.toArray.size - 1 = (toPs ds).length := by rw [List.size_toArray, toPs_map, List.length_map, hlen]; rfl
      have e2 := (PySem.W.argBest_fold (fun a b => PySem.W.dataLt b a) PyData.none (toP d) (toPs ds) (toPs ds).length (Nat.le_refl _)).2
      rw [List.take_length, ← e1] at e2
      unfold PySem.W.maxD
      rw [← e2]
      have e3 : (toP d :: toPs ds) = (d :: ds).map toP := by rw [toPs_map]; rfl
      rw [e3, List.getD_eq_getElem?_getD, List.getElem?_map]
      have e4 : (d :: ds)[argBest (fun i j => PySem.W.dataLt (((d :: ds).map toP).getD j PyData.none) (((d :: ds).map toP).getD i PyData.none)) (its.toArray.size - 1)]? = some e := by
        rw [← e3]; exact he
      rw [e4]; rfl
theorem CallR.never {f : Value} {a : List V → Hp → VK → Prop} (h : ∀ vs H Q, ¬ a vs H Q) : CallR X f a := fun _ _ _ _ _ _ _ _ _ q => (h _ _ _ q).elim
theorem bi_any (hK : X.K = B.K) (hc : X.calm = true) (hg : X.A.guards = some []) (hu : X.A.units + 65 < cLine) : ∀ f, CallR X (biVal f) (LCop B (wBi f)) := by
  intro f
  cases f
  case abs => exact bi_abs
  case isqrt => exact bi_isqrt
  case max2 => exact bi_max2 hc
  case max3 => exact bi_max3 hc
  case min2 => exact bi_min2 hc
  case int => exact bi_int
  case len => exact bi_len hK
  case repr => exact bi_repr hK hg hu
  case str => exact bi_str
  case tuple => exact bi_tuple hK
  case sum => exact bi_sum hK hc
  case all => exact bi_allany hK hc true
  case any => exact bi_allany hK hc false
  case max => exact bi_max hK hc hu
  case min => exact bi_min hK hc hu
  all_goals
    refine CallR.never fun vs H Q ⟨r, S, ds, F, hS, hs, hw, hf⟩ => ?_
    unfold wBi at hw
    split at hw <;> first | contradiction | exact hw
def blVal : Bl → Value
  | .sorted => .builtin "sorted" | .list => .type "list"
theorem bl_list {m : Bool} (hK : X.K = B.K) : CallR X (.type "list") (LCop B (wBl m .list)) := by
  refine CallR.imp (call_list_of (X := X)) fun vs H Q ⟨r, S, ds, F, hS, hs, hw, hf⟩ => ?_
  unfold wBl at hw
  split at hw
  all_goals try contradiction
  obtain ⟨v, rfl, h1⟩ := hs.one
  obtain ⟨es, h2, h3⟩ := hw
  obtain ⟨a, ws, rfl, k, hv⟩ := sqOf_at hS h2 h1
  exact ⟨a, ws, rfl, by rw [hK]; exact k, hf.mk hS h3 hv⟩
theorem each_rv {r : Rg} {H : Hp} : ∀ {ds : List D} {vs : List V} {its : List Value}, RVs B r H ds vs → Vals vs its → PySem.W.EachIs (fun v d => ∃ x, RelV x v ∧ RV B r H d x) its ds
  | _, _, _, .nil, h => by cases h; exact .nil
  | _, _, _, .cons h hs, q => by
    cases q with
    | cons q qs => exact .cons ⟨_, q, h⟩ (each_rv hs qs)
theorem rv_each {r : Rg} {H : Hp} : ∀ {ds : List D} {its : List Value}, PySem.W.EachIs (fun v d => ∃ x, RelV x v ∧ RV B r H d x) its ds → ∃ vs, Vals vs its ∧ RVs B r H ds vs
  | _, _, .nil => ⟨[], .nil, .nil⟩
  | _, _, .cons ⟨x, q, h⟩ hs => by
    obtain ⟨vs, q', h'⟩ := rv_each hs
    exact ⟨x :: vs, .cons q q', .cons h h'⟩
/-- a tuple's items, gathered -/
theorem collect_tupM {prog : Program} {w : World} {A : Around} {E : Value → Shared → Prop} {s : Shared} {p : Addr} {its : List Value} {Q : List Value → Shared → Prop} (hp : s.heap.IsTuple p its.toArray) (hn : its.length ≤ sizeLine)
    (h : Q its { s with heap := (s.heap.push (PyProof.Rows.seqObj "list" #[] 0)).update s.heap.objs.size (Obj.mapSeq (· ++ its.toArray)) }) : wpAny (model prog w) A (collect (.ref p)) Q E s := by
  obtain ⟨u, hu, cu, m, du⟩ := id hp
  unfold collect
  refine wpAny_bind (wpAny_runValue (codeAny_builtin PyProof.Rows.entry_proto_collect' ?_))
  show wpAny _ _ (do again (.builtin "list.__iadd__" ⟨[← newList [], .ref p], []⟩)) _ _ s
  refine wpAny_bind (wpAny_newList (wpAny_pure ⟨Code.quiet_builtin _ (by decide +kernel), codeAny_builtin PyProof.Rows.entry_list_iadd' ?_⟩))
  show wpAny _ _ (Builtin.List.listExtendWith (.ref s.heap.objs.size) (.ref p) (.ref s.heap.objs.size)) _ _ { s with heap := s.heap.push (PyProof.Rows.seqObj "list" #[] 0) }
  unfold Builtin.List.listExtendWith
  have hu1 : (s.heap.push (PyProof.Rows.seqObj "list" #[] 0)).get? p = some u := Heap.get?_push_of_some _ hu
  refine wpAny_bind (wpAny_typeOf (T := "tuple") ⟨u, hu1, cu⟩ ?_)
  have ty : (Value.type "tuple" == Value.type "tuple") = true := by rfl
  rw [if_pos (by rw [ty]; simp)]
  refine wpAny_bind (PyProof.Rows.listItems_at hu1 du ?_)
  refine wpAny_bind (PyProof.Rows.listItems_at (xs := #[]) (n := 0) (Heap.get?_push_size _ rfl) rfl ?_)
  rw [if_neg (by simp)]
  refine wpAny_bind (PyProof.Rows.listUpdate_at (xs := #[]) (n := 0) (Heap.get?_push_size _ rfl) rfl ?_ (Nat.zero_le _) (by show (#[] ++ its.toArray).size ≤ sizeLine + 1; simp only [Array.size_append, List.size_toArray, List.length_nil]; omega))
  refine wpAny_pure ?_
  show wpAny (model prog w) A (do
      let v ← load s.heap.objs.size
      match v.data with
      | .seq ys _ => pure ys.toList
      | _ => unsupported "internal:collect") Q E { s with heap := (s.heap.push (PyProof.Rows.seqObj "list" #[] 0)).update s.heap.objs.size (Obj.mapSeq (· ++ its.toArray)) }
  refine wpAny_bind (wpAny_load (PyProof.Rows.get?_update_seq (Heap.get?_push_size _ rfl) _) ?_)
  show wpAny _ _ (pure ((#[] : Array Value) ++ its.toArray).toList) Q E _
  rw [show ((#[] : Array Value) ++ its.toArray).toList = its by simp]
  exact wpAny_pure h
/-- sorted of a tuple of data -/
theorem sorted_tupD {prog : Program} {w : World} {A : Around} {E : Value → Shared → Prop} {s : Shared} {β : Type} {R : Value → β → Prop} {enc : β → PyData} {vs : List Value} {bs : List β} {l : Addr} {Q : Value → Shared → Prop} (hl : s.heap.IsTuple l vs.toArray) (he : PySem.W.EachIs R vs bs)
    (er : PySem.W.EachIs (fun v b => ∃ as, Reads s.heap v (enc b) as) vs bs) (h1 : PySem.W.AllAlike (bs.map enc)) (h2 : PySem.W.Sortable (bs.map enc)) (hn : bs.length ≤ sizeLine) (hu : ∀ b, b ∈ bs → A.units + 2 + (enc b).depth < cLine)
    (h : ∀ (g : Heap) (p c : Nat) (out : List Value), (∀ b u, s.heap.get? b = some u → g.get? b = some u) → s.heap.objs.size ≤ p → g.get? p = some (PyProof.Rows.seqObj "list" out.toArray c) → out.length = bs.length → PySem.W.EachIs R out (bs.mergeSort (PySem.W.dataLe false enc)) → Q (.ref p) { s with heap := g }) :
    wpAny (model prog w) A (call (.builtin "sorted") [.ref l]) Q E s := by
  have vl : vs.length ≤ sizeLine := by rw [he.length]; exact hn
  obtain ⟨o, ho, hc, n, hd⟩ := id hl
  refine Calls.call_function_entry PyProof.Rows.kind_sorted PyProof.Rows.plain_sorted PyProof.Rows.entry_sorted (PyProof.Rows.args_sorted1 _) ?_
  unfold Builtin.«sorted»
  refine wpAny_bind (m := checkCount "sorted" 1 1 _) (wpAny_pure ?_)
  refine wpAny_bind (collect_tupM hl vl ?_)
  have k1 : ∀ b u, s.heap.get? b = some u → ((s.heap.push (PyProof.Rows.seqObj "list" #[] 0)).update s.heap.objs.size (Obj.mapSeq (· ++ vs.toArray))).get? b = some u := fun b u q =>
    (Heap.get?_update_other _ _ (Nat.ne_of_gt (Heap.lt_size q))).trans (Heap.get?_push_of_some _ q)
  have le0 : s.heap.objs.size ≤ ((s.heap.push (PyProof.Rows.seqObj "list" #[] 0)).update s.heap.objs.size (Obj.mapSeq (· ++ vs.toArray))).objs.size := by
    rw [Heap.size_update, PyProof.Rows.size_push']; exact Nat.le_succ _
  generalize (s.heap.push (PyProof.Rows.seqObj "list" #[] 0)).update s.heap.objs.size (Obj.mapSeq (· ++ vs.toArray)) = g1 at k1 le0 ⊢
  refine wpAny_bind (wpAny_newList ?_ vl)
  have at_ : (g1.push (PyProof.Rows.seqObj "list" vs.toArray 0)).get? g1.objs.size = some (PyProof.Rows.seqObj "list" vs.toArray 0) := Heap.get?_push_size _ rfl
  have le1 := le0
  have old : ∀ b u, s.heap.get? b = some u → (PySem.W.sortingHeap (g1.push (PyProof.Rows.seqObj "list" vs.toArray 0)) g1.objs.size vs).get? b = some u := fun b u q =>
    PySem.W.sortingHeap_old (Nat.ne_of_lt (Nat.lt_of_lt_of_le (Heap.lt_size q) le1)) (Heap.get?_push_of_some _ (k1 b u q))
  have er' : PySem.W.EachIs (fun v b => ∃ as, Reads (PySem.W.sortingHeap (g1.push (PyProof.Rows.seqObj "list" vs.toArray 0)) g1.objs.size vs) v (enc b) as) vs bs := er.mono fun _ _ ⟨as, r⟩ => ⟨as, PyProof.Rows.Reads.keeps old r⟩
  have S := PySem.W.SortsAt.data (prog := prog) (w := w) (A := A.in1.in1) (s := { s with heap := PySem.W.sortingHeap (g1.push (PyProof.Rows.seqObj "list" vs.toArray 0)) g1.objs.size vs }) (PySem.W.each_map (R := fun v d => ∃ as, Reads (PySem.W.sortingHeap (g1.push (PyProof.Rows.seqObj "list" vs.toArray 0)) g1.objs.size vs) v d as) enc er') h1 h2 (PySem.W.bound_map hu)
  refine wpAny_bind (wpAny_holding (wpAny_call_entry PyProof.Rows.slot_list_sort ⟨_, at_, rfl⟩ PyProof.Rows.entry_list_sort (PySem.W.list_sort_vals (s := { s with heap := g1.push (PyProof.Rows.seqObj "list" vs.toArray 0) }) at_ S vl ⟨_, rfl, ?_⟩) (PyProof.Rows.args_list_sort _)))
  obtain ⟨c, hc⟩ := PyProof.Rows.sortedHeap_at (vs := vs) (out := (PySem.W.sortVals (PySem.W.dataKind (PySem.W.sortingHeap (g1.push (PyProof.Rows.seqObj "list" vs.toArray 0)) g1.objs.size vs) (bs.map enc)) false vs vs).toArray) at_
  refine wpAny_pure ⟨_, rfl, h _ _ c _ (fun b u q => ?_) le1 hc ?_ (PySem.W.sortVals_data false he er' h1)⟩
  · rw [PyProof.Rows.sortedHeap_old (Nat.ne_of_lt (Nat.lt_of_lt_of_le (Heap.lt_size q) le1)) (by rw [PyProof.Rows.size_push']; exact Nat.lt_succ_of_lt (Nat.lt_of_lt_of_le (Heap.lt_size q) le1))]
    exact Heap.get?_push_of_some _ (k1 b u q)
  · rw [PySem.W.sortVals_length false rfl]; exact he.length
theorem bl_sorted {m : Bool} (hK : X.K = B.K) (hu : X.A.units + 65 < cLine) : CallR X (.builtin "sorted") (LCop B (wBl m .sorted)) := by
  intro pins s σ H xs us Q I rv ⟨r, S, ds, F, hS, hs, hw, hf⟩
  unfold wBl at hw
  split at hw
  all_goals try contradiction
  obtain ⟨v, rfl, h1⟩ := hs.one
  obtain ⟨u, rfl, ru⟩ := vals1 rv
  obtain ⟨ds, h2, h3, h4, h5, h6⟩ := hw
  obtain ⟨a, vs, rfl, k, hv⟩ := sqOf_at hS h2 h1
  cases ru
  obtain ⟨its, ri, p, hz⟩ : ∃ its, Vals vs its ∧ (s.heap.IsList a its.toArray ∨ s.heap.IsTuple a its.toArray) ∧ vs.length ≤ sizeLine := by
    rcases k with k | k
    · obtain ⟨its, ri, p, hz⟩ := I.list (by rw [hK]; exact k)
      exact ⟨its, ri, .inl p.isList, hz⟩
    · obtain ⟨its, ri, p, hz⟩ := I.tuple (by rw [hK]; exact k)
      exact ⟨its, ri, .inr p, hz⟩
  obtain ⟨as, rd⟩ := Dp.readsAll I _ vs its (by rw [hK]; exact dps_of ds vs hv (by simpa [pd] using h3.1)) ri
  rw [toPs_map] at rd h4 h5
  have hdep := depthAll_le h3
  have hd1 : ∀ d, d ∈ ds → (toP d).depth ≤ 59 := by
    have : ∀ l : List D, ∀ d ∈ l, (toP d).depth ≤ PyData.depthAll (toPs l) := by
      intro l
      induction l with
      | nil => intro d hd; cases hd
      | cons x l ih =>
        intro d hd
        simp only [toPs, PyData.depthAll]
        rcases List.mem_cons.mp hd with q | q
        · subst q; omega
        · have := ih d q; omega
    intro d hd
    exact Nat.le_trans (this ds d hd) hdep
  rcases p with p | p
  · refine PySem.W.sorted_data (enc := toP) p (each_rv hv ri) (PySem.W.readsAll_each toP rd) h4 h5 (by rw [hv.length]; exact hz) (fun d hd => by have := hd1 d hd; omega) fun out ho he => ?_
    obtain ⟨ws, q1, q2⟩ := rv_each he
    obtain ⟨ep, he'⟩ := PyProof.Rows.sortedAll_at s.heap its out.toArray
    have hlen : ws.length ≤ sizeLine := by rw [q1.length, ho, hv.length]; exact hz
    exact ⟨.ref _, upd H (s.heap.objs.size + 1) (.lst ws), I.laid (t' := s.toks) (fun _ _ => PyProof.Rows.sortedAll_old) (Nat.le_succ _) ⟨hlen, out, ep, q1, he'⟩, rfl, hf.mk hS h6 q2 _ (I.hok.fresh (Nat.le_succ _))⟩
  · refine sorted_tupD (enc := toP) p (each_rv hv ri) (PySem.W.readsAll_each toP rd) h4 h5 (by rw [hv.length]; exact hz) (fun d hd => by have := hd1 d hd; omega) fun g p' c out kg hp hg ho he => ?_
    obtain ⟨ws, q1, q2⟩ := rv_each he
    have hlen : ws.length ≤ sizeLine := by rw [q1.length, ho, hv.length]; exact hz
    exact ⟨.ref _, upd H p' (.lst ws), I.laid (t' := s.toks) kg hp ⟨hlen, out, c, q1, hg⟩, rfl, hf.mk hS h6 q2 _ (I.hok.fresh hp)⟩
theorem bl_any {m : Bool} (hK : X.K = B.K) (hu : X.A.units + 65 < cLine) : ∀ f, CallR X (blVal f) (LCop B (wBl m f)) := by
  intro f
  cases f
  case list => exact bl_list hK
  case sorted => exact bl_sorted hK hu
  all_goals
    refine CallR.never fun vs H Q ⟨r, S, ds, F, hS, hs, hw, hf⟩ => ?_
    unfold wBl at hw
    split at hw <;> first | contradiction | exact hw

/-! methods of lists -/
def LMop (B : Bk) (w : D → List D → Store → Post → Prop) : V → List V → Hp → VK → Prop := fun v vs H Q => ∃ r S o ds F, RS B r S H ∧ RV B r H o v ∧ RVs B r H ds vs ∧ w o ds S F ∧ Fn B r H F Q
/-- a cell's list -/
theorem cell_at {r : Rg} {S : Store} {H : Hp} {n : Nat} {v : V} {xs : List D} (hS : RS B r S H) (h : S[n]? = some (.lst xs)) (hv : RV B r H (.ref n) v) : ∃ a vs, v = .ref a ∧ r.c[n]? = some a ∧ H a = some (.lst vs) ∧ RVs B r H xs vs := by
  cases hv with
  | ref hr =>
    have k := hS.at_ _ _ _ h hr
    cases k with
    | lst h1 h2 => exact ⟨_, _, rfl, hr, h1, h2⟩
theorem Fn.put {r : Rg} {S : Store} {H : Hp} {F : Post} {Q : VK} {n : Nat} {a : Addr} {ds : List D} {vs : List V} {d : D} {v : V} (f : Fn B r H F Q) (s : RS B r S H) (hr : r.c[n]? = some a) (hs : RVs B r H ds vs) (h : F d (S.set n (.lst ds))) (hd : RV B r H d v) : Q v (upd H a (.lst vs)) :=
  f d _ r _ v h (.put (List.mem_of_getElem? hr)) (s.put hr hs) (hd.mono (.put (List.mem_of_getElem? hr)))
def meId : Me → String
  | .append => "list.append" | .pop => "list.pop" | .extend => "list.extend" | .index => "list.index" | .remove => "list.remove" | .reverse => "list.reverse" | .clear => "list.clear" | .insert => "list.insert"
theorem MtM.imp {id : String} {a b : V → List V → Hp → VK → Prop} (h : MtM X id a) (k : ∀ v vs H Q, b v vs H Q → a v vs H Q) : MtM X id b :=
  fun pins s σ H x xs v us Q I rx rv q => h pins s σ H x xs v us Q I rx rv (k _ _ _ _ q)
theorem me_append : MtM X "list.append" (LMop B (wMe .append)) := by
  refine MtM.imp (mt_append (X := X)) fun v vs H Q ⟨r, S, o, ds, F, hS, ho, hs, hw, hf⟩ => ?_
  unfold wMe at hw
  split at hw
  all_goals try contradiction
  obtain ⟨xs, h1, h2, h3⟩ := hw
  obtain ⟨y, rfl, hy⟩ := hs.one
  obtain ⟨a, ws, rfl, hr, hH, hv⟩ := cell_at hS h1 ho
  exact ⟨a, ws, y, rfl, rfl, hH, by rw [← hv.length]; exact h2, hf.put hS hr (hv.append (.cons hy .nil)) h3 .non⟩
theorem RVs.dropLast {r : Rg} {H : Hp} {ds : List D} {vs : List V} (h : RVs B r H ds vs) : RVs B r H ds.dropLast vs.dropLast := by
  rw [List.dropLast_eq_take, List.dropLast_eq_take, h.length]
  exact h.take _
theorem MtM.never {id : String} {a : V → List V → Hp → VK → Prop} (h : ∀ v vs H Q, ¬ a v vs H Q) : MtM X id a := fun _ _ _ _ _ _ _ _ _ _ _ _ q => (h _ _ _ _ q).elim
theorem RVs.eraseIdx {r : Rg} {H : Hp} : ∀ {ds : List D} {vs : List V} (j : Nat), RVs B r H ds vs → RVs B r H (ds.eraseIdx j) (vs.eraseIdx j)
  | _, _, _, .nil => .nil
  | _, _, 0, .cons _ hs => hs
  | _, _, j + 1, .cons h hs => .cons h (RVs.eraseIdx j hs)
theorem MtM.or {id : String} {a b : V → List V → Hp → VK → Prop} (h : MtM X id a) (h2 : MtM X id b) : MtM X id fun v vs H Q => a v vs H Q ∨ b v vs H Q := fun pins s σ H x xs v us Q I rx rv q => by
  rcases q with q | q
  · exact h pins s σ H x xs v us Q I rx rv q
  · exact h2 pins s σ H x xs v us Q I rx rv q
theorem me_popB : MtM X "list.pop" (LMop B (wMe .pop)) := by
  refine MtM.imp (MtM.or (mt_pop (X := X)) (mt_popAt (X := X))) fun v vs H Q ⟨r, S, o, ds, F, hS, ho, hs, hw, hf⟩ => ?_
  unfold wMe at hw
  split at hw
  all_goals try contradiction
  · obtain ⟨xs, j, d, h1, h2, h3, h4, h5, h6⟩ := hw
    obtain ⟨y, rfl, hy⟩ := hs.one
    cases hy
    obtain ⟨a, ws, rfl, hr, hH, hv⟩ := cell_at hS h1 ho
    obtain ⟨w, h7, h8⟩ := hv.get h5
    exact .inr ⟨a, ws, _, j, w, rfl, rfl, hH, h2, h3, by rw [← hv.length]; exact h4, h7, hf.put hS hr (hv.eraseIdx j) h6 h8⟩
  · obtain ⟨xs, d, h1, h2, h3⟩ := hw
    cases hs
    obtain ⟨a, ws, rfl, hr, hH, hv⟩ := cell_at hS h1 ho
    rw [hv.length] at h2
    obtain ⟨y, h4, h5⟩ := hv.get h2
    exact .inl ⟨a, ws, y, rfl, rfl, hH, h4, hf.put hS hr hv.dropLast h3 h5⟩
theorem erase_first : ∀ {ns : List Int} {z : Int}, z ∈ ns → ∃ j, ns[j]? = some z ∧ (∀ m : Nat, m < j → ns[m]? ≠ some z) ∧ ns.eraseIdx j = ns.erase z
  | a :: r, z, h => by
    by_cases e : a = z
    · subst e
      exact ⟨0, rfl, fun m hm => by omega, by simp⟩
    · obtain ⟨j, h1, h2, h3⟩ := erase_first (ns := r) (z := z) (by
        rcases List.mem_cons.mp h with q | q
        · exact absurd q.symm e
        · exact q)
      refine ⟨j + 1, by simpa using h1, fun m hm => ?_, ?_⟩
      · cases m with
        | zero => simpa using e
        | succ m => simpa using h2 m (by omega)
      · rw [List.eraseIdx_cons_succ, h3, List.erase_cons_tail (by simpa using e)]
/-- the first item that is equal is taken out of a list of data -/
theorem mt_remD (hu : X.A.units + 65 < cLine) : MtM X "list.remove" (fun x xs H Q => ∃ (a : Addr) (y : V) (ws : List V) (d : PyData) (ds : List PyData) (j : Nat) (z : PyData), x = .ref a ∧ xs = [y] ∧ H a = some (.lst ws) ∧ DpAll X.K H ws ds ∧ Dp X.K H y d ∧
    SeqAt.shaped (.list ds) = true ∧ SeqAt.shaped d = true ∧ ds[j]? = some z ∧ PyData.eqv z d = true ∧ (∀ (m : Nat) (z' : PyData), m < j → ds[m]? = some z' → PyData.eqv z' d = false) ∧ Q .non (upd H a (.lst (ws.eraseIdx j)))) := by
  intro pins s σ H x xs v us Q I rx rxs ⟨a, y, ws, d, ds, j, z, hx, hxs0, hH, hw, hy, s1, s2, hz, hzj, hno, q⟩
  subst hx hxs0
  cases rx
  obtain ⟨u, rfl, ru⟩ := rxs.one
  obtain ⟨lz, its, n, rv, hl, e⟩ := I.lstM hH
  obtain ⟨bs, r1⟩ := Dp.reads I d y u hy ru
  obtain ⟨as, r2⟩ := Dp.readsAll I ds ws its hw rv
  have lay : PyData.canLayAll0 ds = true := SeqAt.canLay_of_shaped s1
  have room : X.A.units + 1 + min (PyData.depthAll ds) d.depth < cLine := room_in_shaped s2 hu
  have n1 : its.length = ds.length := SeqAt.ReadsAll.length ds its as r2
  have rd : its.map (SeqAt.readOf s.heap) = ds := SeqAt.readsAll_map ds its as lay r2
  obtain ⟨jd, _⟩ := List.getElem?_eq_some_iff.mp hz
  have jl : j < its.toArray.size := by rw [List.size_toArray]; omega
  have seen : ∀ (m : Nat) (hm : m < its.toArray.size) (z' : PyData), ds[m]? = some z' → SeqAt.readOf s.heap its.toArray[m] = z' := fun m hm z' h => by
    have ml : m < its.length := by simpa using hm
    rw [← rd, List.getElem?_map, List.getElem?_eq_getElem ml, Option.map_some, Option.some.injEq] at h
    simpa using h
  have zl : its.length ≤ sizeLine := by rw [← rv.length]; exact lz
  refine call_meets PySem.F.slot_list_remove ⟨_, e, rfl⟩ PySem.F.entry_list_remove (PySem.F.args_list_remove_2 _ _)
    (SeqAt.list_removeAt a its.toArray n _ _ u (fun t => PyData.eqv (SeqAt.readOf s.heap t) d) j jl ?_ (fun m hm hmj => ?_) (by rw [List.size_toArray]; exact zl)) ⟨e, SeqAt.items_eqAt (vs := its.toArray) (show ReadsAll s.heap its.toArray.toList ds as from r2) r1 lay (SeqAt.canLay_of_shaped s2) room, ?_⟩
  · show PyData.eqv (SeqAt.readOf s.heap its.toArray[j]) d = true
    rw [seen j jl z hz]; exact hzj
  · have md : m < ds.length := by rw [List.size_toArray] at hm; omega
    have hm' : ds[m]? = some ds[m] := List.getElem?_eq_getElem md
    show PyData.eqv (SeqAt.readOf s.heap its.toArray[m]) d = false
    rw [seen m hm _ hm']; exact hno m _ hmj hm'
  · refine ⟨.non, _, I.lset (its' := its.eraseIdx j) (t' := s.toks) hH e ?_ (rv.eraseIdx j) ?_, rfl, q⟩
    · show its.toArray.eraseIdxIfInBounds j = (its.eraseIdx j).toArray
      rw [List.eraseIdxIfInBounds_toArray]
    · exact Nat.le_trans (List.eraseIdx_sublist _ _).length_le lz
theorem toPs_get : ∀ {xs : List D} {m : Nat} {z : PyData}, (toPs xs)[m]? = some z → ∃ x, xs[m]? = some x ∧ z = toP x
  | [], _, _, h => by simp [toPs] at h
  | x :: xs, 0, _, h => by
    simp only [toPs, List.getElem?_cons_zero, Option.some.injEq] at h
    exact ⟨x, rfl, h.symm⟩
  | x :: xs, m + 1, _, h => by
    simp only [toPs, List.getElem?_cons_succ] at h
    obtain ⟨y, h1, h2⟩ := toPs_get h
    exact ⟨y, h1, h2⟩
theorem toPs_at : ∀ {xs : List D} {m : Nat} {x : D}, xs[m]? = some x → (toPs xs)[m]? = some (toP x)
  | [], _, _, h => by simp at h
  | x :: xs, 0, _, h => by
    simp only [List.getElem?_cons_zero, Option.some.injEq] at h
    subst h; rfl
  | x :: xs, m + 1, _, h => by
    simp only [toPs, List.getElem?_cons_succ] at h ⊢
    exact toPs_at h
theorem me_remove (hK : X.K = B.K) (hu : X.A.units + 65 < cLine) : MtM X "list.remove" (LMop B (wMe .remove)) := by
  have two : MtM X "list.remove" (fun x xs H Q => rRemI x xs H Q ∨ (∃ (a : Addr) (y : V) (ws : List V) (d : PyData) (ds : List PyData) (j : Nat) (z : PyData), x = .ref a ∧ xs = [y] ∧ H a = some (.lst ws) ∧ DpAll X.K H ws ds ∧ Dp X.K H y d ∧
    SeqAt.shaped (.list ds) = true ∧ SeqAt.shaped d = true ∧ ds[j]? = some z ∧ PyData.eqv z d = true ∧ (∀ (m : Nat) (z' : PyData), m < j → ds[m]? = some z' → PyData.eqv z' d = false) ∧ Q .non (upd H a (.lst (ws.eraseIdx j))))) := by
    intro pins s σ H x xs v us Q I rx rxs h
    rcases h with h | h
    · exact mt_remove pins s σ H x xs v us Q I rx rxs h
    · exact mt_remD hu pins s σ H x xs v us Q I rx rxs h
  refine MtM.imp two fun v vs H Q ⟨r, S, o, ds, F, hS, ho, hs, hw, hf⟩ => ?_
  unfold wMe at hw
  split at hw
  all_goals try contradiction
  · left
    obtain ⟨xs, ns, h1, h2, h3, h4⟩ := hw
    obtain ⟨y, rfl, hy⟩ := hs.one
    cases hy
    obtain ⟨a, ws, rfl, hr, hH, hv⟩ := cell_at hS h1 ho
    obtain ⟨rfl, rfl⟩ := hv.ints h2
    obtain ⟨j, q1, q2, q3⟩ := erase_first h3
    refine ⟨a, ns, _, j, rfl, rfl, hH, q1, q2, ?_⟩
    rw [q3]
    exact hf.put hS hr (rvs_intsB _) h4 .non
  · right
    obtain ⟨xs, j, h1, h2, h3, h4, h5⟩ := hw
    obtain ⟨y, rfl, hy⟩ := hs.one
    obtain ⟨a, ws, rfl, hr, hH, hv⟩ := cell_at hS h1 ho
    obtain ⟨j1, j2, j3⟩ := List.findIdx?_eq_some_iff_getElem.mp h4
    refine ⟨a, y, ws, _, toPs xs, j, toP xs[j], rfl, rfl, hH, by rw [hK]; exact dps_of xs ws hv (by have := h3.1; simpa [pd] using this), by rw [hK]; exact dp_of _ _ hy h2.1, h3.shaped, h2.shaped, toPs_at (List.getElem?_eq_getElem j1), j2, fun m z' hm hz => ?_, hf.put hS hr (hv.eraseIdx j) h5 .non⟩
    obtain ⟨x, q1, rfl⟩ := toPs_get hz
    obtain ⟨q2, q3⟩ := List.getElem?_eq_some_iff.mp q1
    have := j3 m hm
    rw [q3] at this
    simpa using this
theorem me_extend : MtM X "list.extend" (LMop B (wMe .extend)) := by
  refine MtM.imp (mt_extend (X := X)) fun v vs H Q ⟨r, S, o, ds, F, hS, ho, hs, hw, hf⟩ => ?_
  unfold wMe at hw
  split at hw
  all_goals try contradiction
  obtain ⟨xs, ys, h1, h2, h3, h4⟩ := hw
  obtain ⟨y, rfl, hy⟩ := hs.one
  obtain ⟨a, ws, rfl, hr, hH, hv⟩ := cell_at hS h1 ho
  obtain ⟨b, zs, rfl, hb, hz⟩ := lsM_at hS h2 hy
  exact ⟨a, b, ws, zs, rfl, rfl, hH, hb, by rw [← hv.length, ← hz.length]; exact h3, hf.put hS hr (hv.append hz) h4 .non⟩
theorem me_clear : MtM X "list.clear" (LMop B (wMe .clear)) := by
  refine MtM.imp (mt_clear (X := X)) fun v vs H Q ⟨r, S, o, ds, F, hS, ho, hs, hw, hf⟩ => ?_
  unfold wMe at hw
  split at hw
  all_goals try contradiction
  obtain ⟨xs, h1, h2⟩ := hw
  cases hs
  obtain ⟨a, ws, rfl, hr, hH, hv⟩ := cell_at hS h1 ho
  exact ⟨a, ws, rfl, rfl, hH, hf.put hS hr .nil h2 .non⟩
theorem me_reverse : MtM X "list.reverse" (LMop B (wMe .reverse)) := by
  refine MtM.imp (mt_reverse (X := X)) fun v vs H Q ⟨r, S, o, ds, F, hS, ho, hs, hw, hf⟩ => ?_
  unfold wMe at hw
  split at hw
  all_goals try contradiction
  obtain ⟨xs, h1, h2⟩ := hw
  cases hs
  obtain ⟨a, ws, rfl, hr, hH, hv⟩ := cell_at hS h1 ho
  exact ⟨a, ws, rfl, rfl, hH, hf.put hS hr hv.rev h2 .non⟩
theorem me_insert : MtM X "list.insert" (LMop B (wMe .insert)) := by
  refine MtM.imp (mt_insert (X := X)) fun v vs H Q ⟨r, S, o, ds, F, hS, ho, hs, hw, hf⟩ => ?_
  unfold wMe at hw
  split at hw
  all_goals try contradiction
  obtain ⟨xs, h1, h2, h3, h4, h5⟩ := hw
  obtain ⟨y, u, rfl, hy, hu⟩ := hs.two
  cases hy
  obtain ⟨a, ws, rfl, hr, hH, hv⟩ := cell_at hS h1 ho
  exact ⟨a, ws, _, u, rfl, rfl, hH, by rw [← hv.length]; exact h2, h3, h4, hf.put hS hr (((hv.take _).append (.cons hu .nil)).append (hv.drop _)) h5 .non⟩
theorem me_any (hK : X.K = B.K) (hu : X.A.units + 65 < cLine) : ∀ f, MtM X (meId f) (LMop B (wMe f)) := by
  intro f
  cases f
  case append => exact me_append
  case pop => exact me_popB
  case remove => exact me_remove hK hu
  case extend => exact me_extend
  case clear => exact me_clear
  case reverse => exact me_reverse
  case insert => exact me_insert
  all_goals
    refine MtM.never fun v vs H Q ⟨r, S, o, ds, F, hS, ho, hs, hw, hf⟩ => ?_
    unfold wMe at hw
    split at hw <;> first | contradiction | exact hw
/-- a method's receiver is a list -/
theorem me_list {r : Rg} {S : Store} {H : Hp} {f : Me} {o : D} {v : V} {ds : List D} {F : Post} (hS : RS B r S H) (ho : RV B r H o v) (hw : wMe f o ds S F) (hK : X.K = B.K) : tyV X.K "list" v H := by
  have go : ∀ {n : Nat} {xs : List D}, o = .ref n → S[n]? = some (.lst xs) → tyV X.K "list" v H := fun e h => by
    subst e
    obtain ⟨a, ws, rfl, hr, hH, hv⟩ := cell_at hS h ho
    exact .inl ⟨rfl, ws, .of hH⟩
  unfold wMe at hw
  split at hw
  all_goals first
    | exact hw.elim
    | (obtain ⟨xs, h1, _⟩ := hw; exact go rfl h1)
    | (obtain ⟨xs, ns, h1, _⟩ := hw; exact go rfl h1)
    | (obtain ⟨xs, j, d, h1, _⟩ := hw; exact go rfl h1)
/-- o[i] = d -/
def L3set (B : Bk) (w : D → D → D → Store → (Store → Prop) → Prop) : V → V → V → Hp → (Hp → Prop) → Prop := fun o i v H Q => ∃ r S x y d F, RS B r S H ∧ RV B r H x o ∧ RV B r H y i ∧ RV B r H d v ∧ w x y d S F ∧ FnS B r H F Q
theorem PSet.or {r r' : V → V → V → Hp → (Hp → Prop) → Prop} (h : PSet X r) (h' : PSet X r') : PSet X (fun o i v H Q => r o i v H Q ∨ r' o i v H Q) := by
  intro pins s σ H o i v ov iv u Q I ro ri rv q
  rcases q with q | q
  · exact h pins s σ H o i v ov iv u Q I ro ri rv q
  · exact h' pins s σ H o i v ov iv u Q I ro ri rv q
theorem set_K (hu : X.A.units + 65 < cLine) : PSet X (fun o i v H Q => ∃ a H', o = .ref a ∧ DPut H a i v H' ∧ Q H') := by
  intro pins s σ H o i v ov iv u Q I ro ri rv ⟨a, H', e, g, q⟩
  subst e
  cases ro
  exact d_setItem (by omega) I g ri rv fun s' I' => ⟨H', I', q⟩
theorem set_any (hu : X.A.units + 65 < cLine) : PSet X (L3set B wSet) := by
  intro pins s σ H o i v ov iv u Q I ro ri rv ⟨r, S, x, y, d, F, hS, hx, hy, hd, hw, hf⟩
  refine (PSet.or (set_K (X := X) hu) (set_list (X := X))) pins s σ H o i v ov iv u Q I ro ri rv ?_
  unfold wSet at hw
  split at hw
  · rename_i n
    split at hw
    · rename_i xs k h1
      obtain ⟨j, h2, h3⟩ := hw
      cases hy
      obtain ⟨a, ws, rfl, hr, hH, hv⟩ := cell_at hS h1 hx
      exact .inr ⟨a, ws, _, j, rfl, rfl, hH, by rw [← hv.length]; exact h2, hf _ r _ h3 (.put (List.mem_of_getElem? hr)) (hS.put hr (hv.set hd))⟩
    · rename_i ks ds h1
      obtain ⟨k, h2, h4, h3⟩ := hw
      cases hx with
      | ref hr =>
        rename_i a
        have q := hS.at_ n _ a h1 hr
        cases q with
        | @dct _ _ vs _ l hH hs =>
          obtain ⟨ws, q1, q2, q3⟩ := put_at (k := k) hd l hs
          refine .inl ⟨a, _, rfl, .inl ⟨_, k, hH, kOf_at h2 hy, ?_, rfl⟩, ?_⟩
          · rw [List.length_zip, ← hs.length, ← l]; simpa using h4
          · rw [q1]
            exact hf _ r _ h3 (.put (List.mem_of_getElem? hr)) (hS.putC hr (.dct q2 upd_same (q3.mono (.put (List.mem_of_getElem? hr)))))
    · exact hw.elim
  · exact hw.elim
end
end M

set_option Elab.async false
set_option maxRecDepth 100000
set_option maxHeartbeats 4000000
/-! M5: own functions: what is promised, how they are called. -/
namespace M
open PySem L2 PyProof.Rows

/-- an exception: its data, its class, its own dict -/
inductive XV (B : Bk) (r : Rg) (H : Hp) : D → Value → Option Addr → Prop
  | own {c : Str} {ns : List Str} {ds : List D} {vs : List V} {C dx : Addr} : clsAt B c C → ns.length = ds.length → H dx = some (.xd (ns.zip vs)) → dx ∉ r → RVs B r H ds vs → XV B r H (.ins c ns ds) (.ref C) (some dx)
def FnX (B : Bk) (r : Rg) (H : Hp) (Y : Post) (E : XK) : Prop := ∀ d S' r' H' c dx, Y d S' → Ex r H r' H' → RS B r' S' H' → XV B r' H' d c dx → E c dx H'
/-- a promise, over the abstract heap -/
def LSp (B : Bk) (ms : MSp) : Sp := fun vs H Q E => ∃ r S ds F Y, RS B r S H ∧ RVs B r H ds vs ∧ ms ds S F Y ∧ Fn B r H F Q ∧ FnX B r H Y E
/-- a function keeps a promise, wherever nothing is being shown -/
structure Fx (P : Program) (w : World) (K : PySem.W.Frag) (mg : Str → Option Value) (base : Heap) (L : Nat) (f : Addr) (fd : FuncData) (ps : List Str) (sp : Sp) : Prop where
  run : ∀ (A : Around) (outer : List Env) (s : Shared) (H : Hp) (args : Args) (us : List Value) (vs : List V) (Q : VK) (E : XK), Room L A → A.guards = some [] →
    Env0 P w K mg base A outer s H → BindsTo s fd args (ps.zip us) → us.length = ps.length → Vals vs us → sp vs H Q E → codeAny (model P w) A (.call (.ref f) args) (CR (L2.CX P w) outer P w H s Q E) s
theorem Fx.mono {P : Program} {w : World} {K : PySem.W.Frag} {mg : Str → Option Value} {base : Heap} {L L' : Nat} {f : Addr} {fd : FuncData} {ps : List Str} {sp : Sp} (F : Fx P w K mg base L f fd ps sp) (h : L ≤ L') : Fx P w K mg base L' f fd ps sp :=
  ⟨fun A outer s H args us vs Q E hr => F.run A outer s H args us vs Q E (hr.mono h)⟩
/-- how a function's arguments are bound -/
structure Bnd (fd : FuncData) (ps : List Str) (pats : List (Nat × List Str)) : Prop where
  pos : ∀ us : List Value, us.length = ps.length → bindArgs fd ⟨us, []⟩ = pure (ps.zip us)
  kw : ∀ p ∈ pats, ∀ us ws : List Value, us.length = p.1 → ws.length = p.2.length → bindArgs fd ⟨us, p.2.zip ws⟩ = pure (ps.zip (pmut (pmOf p.1 ps p.2) (us ++ ws))) ∧ (pmut (pmOf p.1 ps p.2) (us ++ ws)).length = ps.length
/-- the functions' own names; __init__ of a class is called from its making -/
def isIni (x : Str) : Bool := match spl x with
  | some (_, m) => m == "__init__"
  | none => false
def At (B : Bk) (x : Str) (f : Addr) : Prop := match spl x with
  | none => B.mg x = some (.ref f) ∧ PySem.W.keepIn B.K (.ref f) = true
  | some (c, m) => ∃ Cc, B.mg c = some (.ref Cc) ∧ Cls B.K Cc ∧ (if m = "__init__" then Mk B.K Cc f else Meth B.K Cc m f)
structure Cal (B : Bk) (P : Program) (w : World) (base : Heap) (L : Nat) (x : Str) (ps : List Str) (pats : List (Nat × List Str)) (ms : MSp) : Prop where
  ex : ∃ f fd L', L' + (if isIni x = true then 1 else 0) ≤ L ∧ At B x f ∧ Bnd fd ps pats ∧ Fx P w B.K B.mg base L' f fd ps (LSp B ms)
theorem At.own {B : Bk} {x : Str} {f : Addr} (h : At B x f) (e : spl x = none) : B.mg x = some (.ref f) ∧ PySem.W.keepIn B.K (.ref f) = true := by
  unfold At at h
  rw [e] at h; exact h
theorem At.mk {B : Bk} {x : Str} {f : Addr} (e : spl x = none) (h1 : B.mg x = some (.ref f)) (h2 : PySem.W.keepIn B.K (.ref f) = true) : At B x f := by
  unfold At
  rw [e]; exact ⟨h1, h2⟩
theorem At.meth {B : Bk} {x c m : Str} {f : Addr} (h : At B x f) (e : spl x = some (c, m)) (hm : m ≠ "__init__") : ∃ Cc, B.mg c = some (.ref Cc) ∧ Cls B.K Cc ∧ Meth B.K Cc m f := by
  unfold At at h
  rw [e] at h
  obtain ⟨Cc, h1, h2, h3⟩ := h
  rw [if_neg hm] at h3
  exact ⟨Cc, h1, h2, h3⟩
theorem At.ini {B : Bk} {x c : Str} {f : Addr} (h : At B x f) (e : spl x = some (c, ("__init__" : Str))) : ∃ Cc, B.mg c = some (.ref Cc) ∧ Cls B.K Cc ∧ Mk B.K Cc f := by
  unfold At at h
  rw [e] at h
  obtain ⟨Cc, h1, h2, h3⟩ := h
  rw [if_pos rfl] at h3
  exact ⟨Cc, h1, h2, h3⟩
/-- what is wanted of an exception -/
def WXof (B : Bk1) (G : Gam) : WX := fun c dx σ H => ∃ r S e d, RS B r S H ∧ Ro B r H e σ ∧ XV B r H d c dx ∧ G.ex d e S
/-- what an own exception class says, for those that are caught -/
structure XCl (K : PySem.W.Frag) (Cc : Addr) : Prop where
  xf : XfC K Cc
  ie : ExcC K Cc
  fl : ∀ f, isXf f = true → PySem.W.findIn K (.ref Cc) f = some none
/-- an instance of c, at a clause for x -/
def XMt (K : PySem.W.Frag) (mg : Str → Option Value) (c x : Str) (b : Bool) : Prop :=
  ∃ Cc Cx, mg c = some (.ref Cc) ∧ mg x = some (.ref Cx) ∧ PySem.W.exmOne K (.ref Cc) (.ref Cx) = some b ∧ PySem.W.kitOne K (.ref Cc) (.ref Cx) = some b ∧ XCl K Cc
/-- an own exception's __init__: the fields ns are the arguments, the last one first -/
def spIni (K : PySem.W.Frag) (Cc : Addr) (ns : List Str) : Sp := fun vs H Q _ => ∃ a us, vs = .ref a :: us ∧ us.length = ns.length ∧ OexC K Cc ∧ H a = some (exo a Cc none) ∧
  ∀ dx, H dx = none → dx ≠ a → Q .non (upd (upd H dx (exd dx (ns.zip us.reverse))) a (exo a Cc (some dx)))
/-- an own exception class that is made -/
def ECls (P : Program) (w : World) (K : PySem.W.Frag) (mg : Str → Option Value) (base : Heap) (L : Nat) (c : Str) (ns : List Str) : Prop :=
  ∃ Cc fI fd ps k, k + 1 ≤ L ∧ ns.length ≤ 900 ∧ mg c = some (.ref Cc) ∧ OexC K Cc ∧ PySem.W.findIn K (.ref Cc) "__init__" = some (some (.ref fI)) ∧ PySem.W.typeIn K (.ref fI) = some (.type "function") ∧
    FnOk P w K mg base (L2.CX P w) k fI fd ps (spIni K Cc ns) ∧ Binds K fd ps []
/-- a dict of the module, with text keys -/
def KdAt (w : World) (K : PySem.W.Frag) (mg : Str → Option Value) (x : Str) (zs : List Str) : Prop :=
  ∃ d es n, mg x = some (.ref d) ∧ KDict K w d es n ∧ ∀ z, ∃ r, PySem.W.nsIn K d z = some r ∧ r.isSome = zs.contains z
/-- a class, and its instances' fields -/
def ClAt (B : Bk) (c : Str) (fs : List Str) : Prop := ∃ Cc, B.mg c = some (.ref Cc) ∧ Cls B.K Cc ∧ ∀ f ∈ fs, NoAttr B.K Cc f
/-- the exception that a suite holds -/
def XAt (B : Bk) (X : Cx) (a dx : Addr) (c : Str) : Prop :=
  ∃ (X0 : Cx) (oe : Obj) (pn : List (Addr × Obj)) (Cc : Addr), X = X0.suite a ((a, oe) :: pn) ∧ clsAt B c Cc ∧ Zc (.ref Cc) (some dx) oe ∧ (∃ vs, oe.data = .fields vs) ∧ XCl X0.K Cc
structure XOk (C : Ck) (B : Bk1) (L : Nat) (G : Gam) (X : Cx) (sc : Scope) : Prop where
  hK : X.K = B.K
  hmg : X.mg = B.mg
  hN : X.N = C.N
  nd : C.N.Nodup
  calm : C.hot = false → X.calm = true
  rel : ∀ (x : Str) (k : NameKind), sc.names.lookup x = some k → X.env.scope.names.lookup x = some k ∨ (k = .free ∧ X.env.scope.names.lookup x = some .cell)
  kd : sc.kind = .function
  cel : ∀ x, sc.names.lookup x = some .cell → X.fn x = true
  room : C.hot = false → Room L X.A
  un : X.A.units + 65 < cLine
  gd : X.A.guards = some []
  gl : ∀ (k : Nat) (x : Str), C.gl[k]? = some x → ∃ d u v, G.gl[k]? = some d ∧ B.mg x = some u ∧ RelV v u ∧ ∀ r H, RV B r H d v
  bt : ∀ x, hasBt C x = true → B.mg x = none
  im : ∀ x id, C.im.lookup x = some id → B.mg x = some (.builtin id)
  fn : ∀ (k : Nat) (x : Str) (ps : List Str) (pats : List (Nat × List Str)), C.fn[k]? = some (x, ps, pats) → ∃ ms, G.fs[k]? = some ms ∧ Cal B X.prog X.w X.base L x ps pats ms
  tk : Takes X (WXof B G)
  xa : ∀ a dx c, G.xa = some (a, dx, c) → XAt B X a dx c
  ec : ∀ c ns, C.ec.contains (c, ns) = true → ECls X.prog X.w B.K B.mg X.base L c ns
  exm : ∀ c x b, C.exm.contains (c, x, b) = true → XMt B.K B.mg c x b
  kd_ : ∀ x zs, C.kd.lookup x = some zs → KdAt X.w B.K B.mg x zs
  cl : ∀ c fs, C.cl.contains (c, fs) = true → ClAt B c fs

section
variable {B : Bk1} {C : Ck} {G : Gam} {X : Cx} {sc : Scope} {L : Nat}
/-- the callee runs -/
theorem fx_run {pins : List (Addr × Obj)} {σ : L2.St} {H : Hp} {s : Shared} {Q : VK} {f : Addr} {fd : FuncData} {ps : List Str} {sp : Sp} {us bs : List Value} {kws : List (Str × Value)} {vs : List V} {W : WX}
    (F : Fx X.prog X.w X.K X.mg X.base L f fd ps sp) (hr : Room L X.A) (hg : X.A.guards = some []) (tk : Takes X W) (I : Inv X pins σ H s) (hb : BindsTo s fd ⟨us, kws⟩ (ps.zip bs)) (hl : bs.length = ps.length) (rv : Vals vs bs)
    (h : sp vs H Q (WE W σ)) : wpAny (model X.prog X.w) X.A (call (.ref f) us kws) (EP X pins σ Q) X.xe s := by
  refine wpAny_call (codeAny_mono (F.run X.A X.stack s H ⟨us, kws⟩ bs vs Q (WE W σ) hr hg I.env0 hb hl rv h) fun res s' hq => ?_)
  match res, hq with
  | .error e, hq => exact passAt tk σ pins H s e s' I hq
  | .ok (.ret u), hq => exact I.after hq
  | .ok .next, hq => exact False.elim hq
  | .ok .brk, hq => exact False.elim hq
  | .ok .cont, hq => exact False.elim hq

/-! lifts -/
def LE (B : Bk1) (w : Env' → Store → Post → Prop) : TE := fun σ H Q => ∃ r S e F, RS B r S H ∧ Ro B r H e σ ∧ w e S F ∧ Fn B r H F Q
def FnB (B : Bk) (r : Rg) (H : Hp) (F : Bool → Store → Prop) (Q : Bool → Hp → Prop) : Prop := ∀ b S' r' H', F b S' → Ex r H r' H' → RS B r' S' H' → Q b H'
def LT (B : Bk1) (w : Env' → Store → Post → Prop) : TT := fun σ H Q => ∃ r S e F, RS B r S H ∧ Ro B r H e σ ∧ w e S (fun d S' => wB d fun b => F b S') ∧ FnB B r H F Q
def FnL (B : Bk) (n : Nat) (r : Rg) (H : Hp) (F : List D → Store → Prop) (Q : List V → Hp → Prop) : Prop := ∀ ds S' r' H' vs, ds.length = n → F ds S' → Ex r H r' H' → RS B r' S' H' → RVs B r' H' ds vs → Q vs H'
def LEs (B : Bk1) (n : Nat) (w : Env' → Store → (List D → Store → Prop) → Prop) : TA := fun σ H Q => ∃ r S e F, RS B r S H ∧ Ro B r H e σ ∧ w e S F ∧ FnL B n r H F Q
def FnO (B : Bk) (r : Rg) (H : Hp) (F : Option Int → Store → Prop) (Q : Option Int → Hp → Prop) : Prop := ∀ b S' r' H', F b S' → Ex r H r' H' → RS B r' S' H' → Q b H'
def LO (B : Bk1) (w : Env' → Store → (Option Int → Store → Prop) → Prop) : L2.St → Hp → (Option Int → Hp → Prop) → Prop := fun σ H Q => ∃ r S e F, RS B r S H ∧ Ro B r H e σ ∧ w e S F ∧ FnO B r H F Q
/-- a walk that yields the items -/
def JOk (B : Bk) (J : L2.It) (c : Src) (r : Rg) (H : Hp) : Prop := ∀ (i : Nat) S2 r2 H2, Car r H r2 H2 → RS B r2 S2 H2 → c.ok S2 → (i = c.items.length → J.stop i H2) ∧
  ∀ d, c.items[i]? = some d → J.go i H2 ∧ ∀ x H3, J.yld i H2 x H3 → Ex r2 H2 r2 H3 ∧ RS B r2 S2 H3 ∧ RV B r2 H3 d x
def LI (B : Bk1) (w : Env' → Store → (Src → Store → Prop) → Prop) : TI := fun σ H R => ∃ r S e F, RS B r S H ∧ Ro B r H e σ ∧ w e S F ∧
  ∀ c S' r' H' J, F c S' → Ex r H r' H' → RS B r' S' H' → JOk B J c r' H' → R J H'
/-- names outside keep their values -/
def Keeps (ns : List Nat) (σ σ' : L2.St) : Prop := σ'.length = σ.length ∧ ∀ i, i ∉ ns → σ'[i]? = σ[i]?
def FnG (B : Bk1) (r : Rg) (H : Hp) (ns : List Nat) (σ : L2.St) (F : Env' → Store → Prop) (Q : L2.St → Hp → Prop) : Prop := ∀ e' S' r' H' σ', F e' S' → Ex r H r' H' → RS B r' S' H' → Ro B r' H' e' σ' → Keeps ns σ σ' → Q σ' H'
def LG (B : Bk1) (ns : List Nat) (w : D → Env' → Store → (Env' → Store → Prop) → Prop) : TG := fun v σ H Q => ∃ r S e d F, RS B r S H ∧ Ro B r H e σ ∧ RV B r H d v ∧ w d e S F ∧ FnG B r H ns σ F Q
def LGs (B : Bk1) (ns : List Nat) (w : List D → Env' → Store → (Env' → Store → Prop) → Prop) : TGs := fun vs σ H Q => ∃ r S e ds F, RS B r S H ∧ Ro B r H e σ ∧ RVs B r H ds vs ∧ w ds e S F ∧ FnG B r H ns σ F Q

/-! the parts of an expression, one after another -/
def A1 (B : Bk1) (σ : L2.St) (K : D → Env' → Store → Post → Prop) (Q : VK) (v : V) (H : Hp) : Prop := ∃ r S e x F, RS B r S H ∧ Ro B r H e σ ∧ RV B r H x v ∧ K x e S F ∧ Fn B r H F Q
def A2 (B : Bk1) (σ : L2.St) (K : D → D → Env' → Store → Post → Prop) (Q : VK) (v u : V) (H : Hp) : Prop := ∃ r S e x y F, RS B r S H ∧ Ro B r H e σ ∧ RV B r H x v ∧ RV B r H y u ∧ K x y e S F ∧ Fn B r H F Q
variable {σ : L2.St} {H : Hp} {Q : VK}
theorem LE.bind {w : Env' → Store → Post → Prop} {K : D → Env' → Store → Post → Prop} (h : LE B (fun e S Q => w e S fun x S1 => K x e S1 Q) σ H Q) : LE B w σ H fun v H1 => A1 B σ K Q v H1 := by
  obtain ⟨r, S, e, F, hS, hO, hw, hf⟩ := h
  exact ⟨r, S, e, _, hS, hO, hw, fun x S1 r1 H1 v hk ex s1 hv => ⟨r1, S1, e, x, F, s1, hO.mono ex, hv, hk, hf.trans ex⟩⟩
theorem A1.bind {w : Env' → Store → Post → Prop} {K : D → D → Env' → Store → Post → Prop} {v : V} (h : A1 B σ (fun x e S Q => w e S fun y S1 => K x y e S1 Q) Q v H) : LE B w σ H fun u H1 => A2 B σ K Q v u H1 := by
  obtain ⟨r, S, e, x, F, hS, hO, hx, hw, hf⟩ := h
  exact ⟨r, S, e, _, hS, hO, hw, fun y S1 r1 H1 u hk ex s1 hv => ⟨r1, S1, e, x, y, F, s1, hO.mono ex, hx.mono ex, hv, hk, hf.trans ex⟩⟩
theorem A1.e {w : Env' → Store → Post → Prop} {v : V} (h : A1 B σ (fun _ e S Q => w e S Q) Q v H) : LE B w σ H Q := by
  obtain ⟨r, S, e, x, F, hS, hO, hx, hw, hf⟩ := h
  exact ⟨r, S, e, F, hS, hO, hw, hf⟩
theorem A2.op {w : D → D → Store → Post → Prop} {v u : V} (h : A2 B σ (fun x y _ S Q => w x y S Q) Q v u H) : L2op B w v u H Q := by
  obtain ⟨r, S, e, x, y, F, hS, hO, hx, hy, hw, hf⟩ := h
  exact ⟨r, S, x, y, F, hS, hx, hy, hw, hf⟩
theorem A2.cmp {w : D → D → Store → (Bool → Prop) → Prop} {v u : V} (h : A2 B σ (fun x y _ S Q => w x y S fun c => Q (.bl c) S) Q v u H) : L2cmp B w v u H Q := by
  obtain ⟨r, S, e, x, y, F, hS, hO, hx, hy, hw, hf⟩ := h
  exact ⟨r, S, x, y, _, hS, hx, hy, hw, fun b hb => hf.bl hS hb⟩
theorem PE.imp {e : Expr} {t t' : TE} (h : PE X e t) (k : ∀ σ H Q, t' σ H Q → t σ H Q) : PE X e t' := ⟨fun pins s σ H Q I q => h.run pins s σ H Q I (k _ _ _ q)⟩
theorem PT.imp {e : Expr} {t t' : TT} (h : PT X e t) (k : ∀ σ H Q, t' σ H Q → t σ H Q) : PT X e t' := ⟨fun pins s σ H Q I q => h.run pins s σ H Q I (k _ _ _ q)⟩
theorem PW.imp {e : Expr} {t t' : TT} (h : PW X e t) (k : ∀ σ H Q, t' σ H Q → t σ H Q) : PW X e t' := ⟨fun wh pins s σ H Q I q => h.run wh pins s σ H Q I (k _ _ _ q)⟩
theorem PA.imp {es : List Expr} {t t' : TA} (h : PA X es t) (k : ∀ σ H Q, t' σ H Q → t σ H Q) : PA X es t' := ⟨fun pos pins s σ H Q I q => h.run pos pins s σ H Q I (k _ _ _ q)⟩
theorem PK.imp {es : List Keyword} {t t' : TA} (h : PK X es t) (k : ∀ σ H Q, t' σ H Q → t σ H Q) : PK X es t' := ⟨fun pos pins s σ H Q I q => h.run pos pins s σ H Q I (k _ _ _ q)⟩
theorem wB_bl {d : D} {k : Bool → Prop} (h : wB d k) : ∃ b, d = .bl b ∧ k b := by
  cases d <;> first | exact h.elim | exact ⟨_, rfl, h⟩
/-- a test, by its value -/
theorem LT.tB {w : Env' → Store → Post → Prop} {Q : Bool → Hp → Prop} (h : LT B w σ H Q) : tB (LE B w) σ H Q := by
  obtain ⟨r, S, e, F, hS, hO, hw, hf⟩ := h
  refine ⟨r, S, e, _, hS, hO, hw, fun d S1 r1 H1 v hk ex s1 hv => ?_⟩
  obtain ⟨b, rfl, hb⟩ := wB_bl hk
  cases hv
  exact ⟨b, rfl, hf b S1 r1 H1 hb ex s1⟩
theorem pt_of {e : Expr} {w : Env' → Store → Post → Prop} (h : PE X e (LE B w)) (he : ∀ whole, isTrue e X.env whole = (do let v ← whole; standAt e.pos; holding [v] (truthy v)) := by intro _; rfl) : PT X e (LT B w) :=
  PT.imp (pt_val h he) fun _ _ _ q => LT.tB q
end
end M

set_option Elab.async false
set_option maxRecDepth 100000
set_option maxHeartbeats 8000000
/-! M6: code that passes the check does what its wish says (expressions). -/
namespace M
open PySem L2
open PyProof.Rows hiding St

/-! syntax -/
theorem star_cons {e : Expr} {es : List Expr} {env : Env} (h : isArg e = true) : starEach (e :: es) env = (false, eval e env) :: starEach es env := by
  cases e <;> first | rfl | (simp [isArg] at h)
def allArg : List Expr → Bool
  | [] => true
  | e :: es => isArg e && allArg es
theorem plain_args {pos : Pos} {env : Env} : ∀ {es : List Expr}, allArg es = true → (backTo pos (starEach es env)).any (·.1) = false
  | [], _ => rfl
  | e :: es, h => by
    have h' : isArg e = true ∧ allArg es = true := by simpa [allArg] using h
    rw [star_cons h'.1]
    show (false || (backTo pos (starEach es env)).any (·.1)) = false
    rw [plain_args h'.2]; rfl
theorem all_args {pos : Pos} {env : Env} : ∀ {es : List Expr}, allArg es = true → (backTo pos (starEach es env)).all (fun x => !x.1) = true
  | [], _ => rfl
  | e :: es, h => by
    have h' : isArg e = true ∧ allArg es = true := by simpa [allArg] using h
    rw [star_cons h'.1]
    show (!false && (backTo pos (starEach es env)).all (fun x => !x.1)) = true
    rw [all_args h'.2]; rfl
theorem kEs_args {C : Ck} {sc : Scope} : ∀ {ir : Es} {es : List Expr}, kEs C sc ir es = true → allArg es = true
  | .nil, es, h => by
    cases es with
    | nil => rfl
    | cons _ _ => simp [kEs] at h
  | .cons a r, es, h => by
    cases es with
    | nil => simp [kEs] at h
    | cons e es =>
      have h' : (isArg e = true ∧ kE C sc a e = true) ∧ kEs C sc r es = true := by simpa [kEs] using h
      simp only [allArg, h'.1.1, kEs_args h'.2, Bool.and_self]
theorem kEs_len {C : Ck} {sc : Scope} : ∀ {ir : Es} {es : List Expr}, kEs C sc ir es = true → True := fun _ => trivial
theorem base_of {e : Expr} {f : Str} {env : Env} (h : isRecv e = true) : attributeBase e f env (eval e env) = eval e env := by
  cases e <;> first | rfl | skip
  rename_i fn args kws pos
  cases fn <;> first | rfl | skip
  cases args <;> first | rfl | skip
  cases kws <;> first | rfl | (simp [isRecv] at h)
theorem plainIx_of {e : Expr} (h : isIx e = true) : PlainIx e := by
  intro o i
  cases e <;> first | rfl | (simp [isIx] at h)
theorem mark_of {op : CmpOp} {e : Expr} (h : isSet e = false) : behindInMarks op e = false := by
  cases e <;> first | rfl | (simp [isSet] at h)
theorem folded_of {e : Expr} {env : Env} (h : isSet e = false) : ∀ x, foldedSetIterable e env x = pure x := by
  intro x
  cases e <;> first | rfl | (simp [isSet] at h)
theorem vis_of {sc : Scope} {x : Str} (h : isVis sc x = true) : Vis sc x := by
  unfold isVis at h
  split at h <;> first | exact .inl (by assumption) | exact .inr (.inl (by assumption)) | exact .inr (.inr (by assumption)) | cases h
theorem loc_of {sc : Scope} {x : Str} (h : isLoc sc x = true) : Loc sc x := by
  unfold isLoc at h
  split at h <;> first | exact .inl (by assumption) | exact .inr (by assumption) | cases h
theorem gl_of {sc : Scope} {x : Str} (h : isGl sc x = true) : sc.names.lookup x = some .globalImplicit ∧ x ≠ "__name__" ∧ (x == ("__debug__" : Str)) = false := by
  unfold isGl at h
  split at h
  · rename_i e
    rw [Bool.and_eq_true, Bool.and_eq_true, bne_iff_ne, bne_iff_ne] at h
    exact ⟨e, h.1.1, beq_eq_false_iff_ne.mpr h.1.2⟩
  · cases h
theorem gl_dot {sc : Scope} {x : Str} (h : isGl sc x = true) : spl x = none := by
  unfold isGl at h
  split at h
  · rw [Bool.and_eq_true] at h
    exact Option.isNone_iff_eq_none.mp h.2
  · cases h
theorem kw_names {pos : Pos} {env : Env} : ∀ {kws : List Keyword} {ns : List Str}, kwNames kws = some ns → (backToKw pos (keywordEach kws env)).all (·.1.isSome) = true ∧ (backToKw pos (keywordEach kws env)).filterMap (·.1) = ns ∧ (backToKw pos (keywordEach kws env)).any (·.1.isNone) = false
  | [], ns, h => by cases h; exact ⟨rfl, rfl, rfl⟩
  | ⟨none, v, p⟩ :: r, ns, h => by simp [kwNames] at h
  | ⟨some n, v, p⟩ :: r, ns, h => by
    simp only [kwNames, Option.map_eq_some_iff] at h
    obtain ⟨ns', h1, rfl⟩ := h
    obtain ⟨a, b, c⟩ := kw_names (pos := pos) (env := env) h1
    refine ⟨?_, ?_, ?_⟩
    · show (true && (backToKw pos (keywordEach r env)).all (·.1.isSome)) = true
      rw [a]; rfl
    · show n :: (backToKw pos (keywordEach r env)).filterMap (·.1) = n :: ns'
      rw [b]
    · show (false || (backToKw pos (keywordEach r env)).any (·.1.isNone)) = false
      rw [c]; rfl
theorem bi_boot (f : Bi) (h : f ≠ .isqrt) : bootBuiltins (biName f) = some (biVal f) := by
  cases f <;> first | exact absurd rfl h | (show bootBuiltins _ = _; decide +kernel)
theorem bl_boot (f : Bl) : bootBuiltins (blName f) = some (blVal f) := by
  cases f <;> (show bootBuiltins _ = _; decide +kernel)
end M

set_option Elab.async false
set_option maxRecDepth 100000
set_option maxHeartbeats 8000000
/-! M7: each construct of expressions. -/
namespace M
open PySem L2
open PyProof.Rows hiding St

section
variable {B : Bk1} {C : Ck} {G : Gam} {X : Cx} {sc : Scope} {L : Nat} {σ : L2.St} {H : Hp}
theorem XOk.keep (ok : XOk C B L G X sc) {x : Str} {k : NameKind} (h : sc.names.lookup x = some k) (hk : k ≠ .free) : X.env.scope.names.lookup x = some k := by
  rcases ok.rel x k h with q | ⟨q, _⟩
  · exact q
  · exact absurd q hk
theorem XOk.vis (ok : XOk C B L G X sc) {x : Str} (h : isVis sc x = true) : Vis X.env.scope x := by
  rcases vis_of h with q | q | q
  · exact .inl (ok.keep q (by decide))
  · exact .inr (.inl (ok.keep q (by decide)))
  · rcases ok.rel x _ q with z | ⟨_, z⟩
    · exact .inr (.inr z)
    · exact .inr (.inl z)
theorem XOk.loc (ok : XOk C B L G X sc) {x : Str} (h : isLoc sc x = true) : Loc X.env.scope x := by
  rcases loc_of h with q | q
  · exact .inl (ok.keep q (by decide))
  · exact .inr (ok.keep q (by decide))
theorem XOk.glb (ok : XOk C B L G X sc) {x : Str} (h : isGl sc x = true) : Gl X x := ok.keep (gl_of h).1 (by decide)
theorem XOk.fnOk (ok : XOk C B L G X sc) {x : Str} (h : isLoc sc x = true) : X.fn x = true ∨ X.env.scope.names.lookup x = some .local := by
  rcases loc_of h with q | q
  · exact .inr (ok.keep q (by decide))
  · exact .inl (ok.cel x q)

theorem c_var (ok : XOk C B L G X sc) {i : Nat} {e : Expr} (h : kE C sc (.var i) e = true) : PE X e (LE B (wE (.var i) G)) := by
  simp only [kE] at h
  split at h
  · rename_i x p
    simp only [Bool.and_eq_true, beq_iff_eq, bne_iff_ne, ne_eq] at h
    obtain ⟨⟨⟨h1, h2⟩, h3⟩, h4⟩ := h
    have hN : X.N[i]? = some x := by rw [ok.hN]; exact h1
    refine PE.imp (pe_var hN (ok.vis h2) (beq_eq_false_iff_ne.mpr h3) (beq_eq_false_iff_ne.mpr h4)) fun σ H Q ⟨r, S, e, F, hS, hO, hw, hf⟩ => ?_
    simp only [wE] at hw
    split at hw
    · rename_i d q
      obtain ⟨v, h5, h6⟩ := hO.at_ i d q
      exact ⟨v, h5, hf.here hS hw h6⟩
    · exact hw.elim
  · cases h
theorem c_cst {d : D} {e : Expr} (h : kE C sc (.cst d) e = true) : PE X e (LE B (wE (.cst d) G)) := by
  simp only [kE] at h
  split at h
  · unfold cstB at h
    split at h
    · exact PE.imp pe_non fun σ H Q ⟨r, S, e, F, hS, hO, hw, hf⟩ => hf.here hS hw .non
    · obtain rfl := beq_iff_eq.mp h
      exact PE.imp pe_bl fun σ H Q ⟨r, S, e, F, hS, hO, hw, hf⟩ => hf.here hS hw (.bl _)
    · obtain rfl := beq_iff_eq.mp h
      exact PE.imp pe_int fun σ H Q ⟨r, S, e, F, hS, hO, hw, hf⟩ => hf.here hS hw (.int _)
    · obtain rfl := beq_iff_eq.mp h
      exact PE.imp pe_str fun σ H Q ⟨r, S, e, F, hS, hO, hw, hf⟩ => hf.here hS hw (.str _)
    · cases h
  · cases h
theorem c_glb (ok : XOk C B L G X sc) {k : Nat} {e : Expr} (h : kE C sc (.glb k) e = true) : PE X e (LE B (wE (.glb k) G)) := by
  simp only [kE] at h
  split at h
  · rename_i x p
    simp only [Bool.and_eq_true, beq_iff_eq] at h
    obtain ⟨d, u, v, h1, h2, h3, h4⟩ := ok.gl k x h.1
    refine PE.imp (pe_glob (ok.glb h.2) (by rw [ok.hmg]; exact h2) h3 (gl_of h.2).2.2) fun σ H Q ⟨r, S, e, F, hS, hO, hw, hf⟩ => ?_
    simp only [wE, h1] at hw
    exact hf.here hS hw (h4 r H)
  · cases h

/-! arguments -/
theorem pa_nil' : PA X [] (LEs B 0 (wEs .nil G)) := PA.imp pa_nil fun σ H Q ⟨r, S, e, F, hS, hO, hw, hf⟩ => hf [] S r H [] rfl hw .refl hS .nil
theorem pk_nil' : PK X [] (LEs B 0 (wEs .nil G)) := PK.imp pk_nil fun σ H Q ⟨r, S, e, F, hS, hO, hw, hf⟩ => hf [] S r H [] rfl hw .refl hS .nil
theorem LEs.cons {n : Nat} {wa : Env' → Store → Post → Prop} {wr : Env' → Store → (List D → Store → Prop) → Prop} {Q : List V → Hp → Prop}
    (h : LEs B (n + 1) (fun e S Q => wa e S fun x S1 => wr e S1 fun xs S2 => Q (x :: xs) S2) σ H Q) : tCons (LE B wa) (LEs B n wr) σ H Q := by
  obtain ⟨r, S, e, F, hS, hO, hw, hf⟩ := h
  refine ⟨r, S, e, _, hS, hO, hw, fun x S1 r1 H1 v hk ex s1 hv => ⟨r1, S1, e, _, s1, hO.mono ex, hk, fun xs S2 r2 H2 vs hn hk2 ex2 s2 hvs => ?_⟩⟩
  exact hf (x :: xs) S2 r2 H2 (v :: vs) (by rw [List.length_cons, hn]) hk2 (ex.trans ex2) s2 (.cons (hv.mono ex2) hvs)
theorem pa_cons' {e : Expr} {es : List Expr} {a : E} {rr : Es} (hi : isArg e = true) (ha : PE X e (LE B (wE a G))) (hr : PA X es (LEs B es.length (wEs rr G))) : PA X (e :: es) (LEs B (e :: es).length (wEs (.cons a rr) G)) :=
  PA.imp (pa_cons ha hr (star_cons hi)) fun _ _ _ q => LEs.cons q
theorem pk_cons' {e : Expr} {kws : List Keyword} {a : E} {rr : Es} {n : Option Str} {p : Pos} {m : Nat} (ha : PE X e (LE B (wE a G))) (hr : PK X kws (LEs B m (wEs rr G))) : PK X (⟨n, e, p⟩ :: kws) (LEs B (m + 1) (wEs (.cons a rr) G)) :=
  PK.imp (pk_cons ha hr) fun _ _ _ q => LEs.cons q
/-- what is made of a list of values -/
theorem LEs.mid {n : Nat} {wes : Env' → Store → (List D → Store → Prop) → Prop} {K : List D → Store → Post → Prop} {Q : VK} {R : List V → Hp → Prop}
    (h : LE B (fun e S Q => wes e S fun ds S1 => K ds S1 Q) σ H Q) (k : ∀ ds S r H vs F, ds.length = n → K ds S F → RS B r S H → RVs B r H ds vs → Fn B r H F Q → R vs H) : LEs B n wes σ H R := by
  obtain ⟨r, S, e, F, hS, hO, hw, hf⟩ := h
  exact ⟨r, S, e, _, hS, hO, hw, fun ds S1 r1 H1 vs hn hk ex s1 hv => k ds S1 r1 H1 vs F hn hk s1 hv (hf.trans ex)⟩

/-! operators -/
variable {a b c : E} {ea eb ec : Expr} {pos : Pos}
theorem c_bin (ok : XOk C B L G X sc) {m : Bool} {o : Operator} (ha : PE X ea (LE B (wE a G))) (hb : PE X eb (LE B (wE b G))) : PE X (.BinOp ea o eb pos) (LE B (wE (.bin m o a b) G)) :=
  PE.imp (pe_op (bin_any (m := m) ok.hK o) ha hb) fun σ H Q q => by
    simp only [wE] at q
    obtain ⟨r, S, e, F, hS, hO, hw, hf⟩ := LE.bind (K := fun x e S Q => wE b G e S fun y S2 => wBin m o x y S2 Q) q
    refine ⟨r, S, e, F, hS, hO, hw, fun d S' r' H' v h1 h2 h3 h4 => ?_⟩
    obtain ⟨r, S, e, F, hS, hO, hw, hf⟩ := A1.bind (K := fun x y e S Q => wBin m o x y S Q) (hf d S' r' H' v h1 h2 h3 h4)
    exact ⟨r, S, e, F, hS, hO, hw, fun d S' r' H' v h1 h2 h3 h4 => A2.op (w := wBin m o) (hf d S' r' H' v h1 h2 h3 h4)⟩
theorem LE.post {w : Env' → Store → Post → Prop} {Q Q' : VK} (h : LE B w σ H Q) (k : ∀ v H, Q v H → Q' v H) : LE B w σ H Q' := by
  obtain ⟨r, S, e, F, hS, hO, hw, hf⟩ := h
  exact ⟨r, S, e, F, hS, hO, hw, fun d S' r' H' v h1 h2 h3 h4 => k _ _ (hf d S' r' H' v h1 h2 h3 h4)⟩
theorem c_neg {sc : Scope} (ha : PE X ea (LE B (wE a G))) : PE X (.UnaryOp .USub ea pos) (LE B (wE (.neg a) G)) :=
  PE.imp (pe_un (neg_any (B := B)) ha) fun σ H Q q => by
    simp only [wE] at q
    exact (LE.bind (K := fun x e S Q => wNeg x S Q) q).post fun v H ⟨r, S, e, x, F, hS, hO, hx, hw, hf⟩ => ⟨r, S, x, F, hS, hx, hw, hf⟩
theorem t_cmp {o : CmpOp} {Q : VK} (q : LE B (wE (.cmp o a b) G) σ H Q) : tOp (L2cmp B fun x y S k => wCmp o x y S k) (LE B (wE a G)) (LE B (wE b G)) σ H Q := by
  simp only [wE] at q
  refine (LE.bind (K := fun x e S Q => wE b G e S fun y S2 => wCmp o x y S2 fun c => Q (.bl c) S2) q).post fun v H q => ?_
  exact (A1.bind (K := fun x y e S Q => wCmp o x y S fun c => Q (.bl c) S) q).post fun u H q => A2.cmp q
theorem c_cmp (ok : XOk C B L G X sc) {o : CmpOp} (hs : isSet eb = false) (ha : PE X ea (LE B (wE a G))) (hb : PE X eb (LE B (wE b G))) : PE X (.Compare ea [o] [eb] pos) (LE B (wE (.cmp o a b) G)) ∧ PT X (.Compare ea [o] [eb] pos) (LT B (wE (.cmp o a b) G)) := by
  have hc := cmp_any (B := B) ok.hK ok.un o
  refine ⟨PE.imp (pe_cmpR hc ha hb (mark_of hs)) fun σ H Q q => t_cmp q, PT.imp (pt_cmpR hc ha hb (mark_of hs)) fun σ H Q q => ?_⟩
  exact t_cmp (LT.tB q)
theorem t_cmp2 {o p : CmpOp} {Q : VK} (q : LE B (wE (.cmp2 o p a b c) G) σ H Q) : tChain (L2cmp B fun x y S k => wCmp o x y S k) (L2cmp B fun x y S k => wCmp p x y S k) (LE B (wE a G)) (LE B (wE b G)) (LE B (wE c G)) σ H Q := by
  simp only [wE] at q
  refine (LE.bind (K := fun x e S Q => wE b G e S fun y S2 => wCmp o x y S2 fun t => if t = true then wE c G e S2 fun z S3 => wCmp p y z S3 fun t => Q (.bl t) S3 else Q (.bl false) S2) q).post fun v H q => ?_
  refine (A1.bind (K := fun x y e S Q => wCmp o x y S fun t => if t = true then wE c G e S fun z S3 => wCmp p y z S3 fun t => Q (.bl t) S3 else Q (.bl false) S) q).post fun u H q => ?_
  obtain ⟨r, S, e, x, y, F, hS, hO, hx, hy, hw, hf⟩ := q
  refine ⟨r, S, x, y, _, hS, hx, hy, hw, fun t ht => ⟨t, rfl, ?_⟩⟩
  cases t with
  | false =>
    simp only [Bool.false_eq_true, if_false] at ht ⊢
    exact hf.bl hS ht
  | true =>
    simp only [if_true] at ht ⊢
    refine ⟨r, S, e, _, hS, hO, ht, fun z S' r' H' v h1 h2 h3 h4 => ⟨r', S', y, z, _, h3, hy.mono h2, h4, h1, fun t ht => (hf.trans h2).bl h3 ht⟩⟩
theorem c_cmp2 (ok : XOk C B L G X sc) {o p : CmpOp} (hs : isSet eb = false) (hs2 : isSet ec = false) (ha : PE X ea (LE B (wE a G))) (hb : PE X eb (LE B (wE b G))) (hc : PE X ec (LE B (wE c G))) :
    PE X (.Compare ea [o, p] [eb, ec] pos) (LE B (wE (.cmp2 o p a b c) G)) ∧ PT X (.Compare ea [o, p] [eb, ec] pos) (LT B (wE (.cmp2 o p a b c) G)) := by
  have k1 := cmp_any (B := B) ok.hK ok.un o
  have k2 := cmp_any (B := B) ok.hK ok.un p
  refine ⟨PE.imp (pe_chain k1 k2 ha hb hc (mark_of hs2)) fun σ H Q q => t_cmp2 q, PT.imp (pt_chain k1 k2 ha hb hc (mark_of hs2)) fun σ H Q q => ?_⟩
  exact t_cmp2 (LT.tB q)
end
end M

set_option Elab.async false
set_option maxRecDepth 100000
set_option maxHeartbeats 8000000
/-! M8: further constructs of expressions: truth, displays, items, calls. -/
namespace M
open PySem L2
open PyProof.Rows hiding St

section
variable {B : Bk1} {C : Ck} {G : Gam} {X : Cx} {sc : Scope} {L : Nat} {σ : L2.St} {H : Hp}
variable {a b c : E} {ea eb ec : Expr} {pos : Pos}
/-- a bool's two ways, as a value -/
theorem t_and {Q : VK} (q : LE B (wE (.and a b) G) σ H Q) : tAndV (LE B (wE a G)) (LE B (wE b G)) σ H Q := by
  simp only [wE] at q
  refine (LE.bind (K := fun x e S Q => wB x fun t => if t = true then wE b G e S Q else Q (.bl false) S) q).post fun v H ⟨r, S, e, x, F, hS, hO, hx, hw, hf⟩ => ?_
  obtain ⟨t, rfl, ht⟩ := wB_bl hw
  cases hx
  refine ⟨t, rfl, ?_⟩
  cases t with
  | true => simp only [if_true] at ht ⊢; exact ⟨r, S, e, F, hS, hO, ht, hf⟩
  | false => simp only [Bool.false_eq_true, if_false] at ht ⊢; exact hf.bl hS ht
theorem t_or {Q : VK} (q : LE B (wE (.or a b) G) σ H Q) : tOrV (LE B (wE a G)) (LE B (wE b G)) σ H Q := by
  simp only [wE] at q
  refine (LE.bind (K := fun x e S Q => wB x fun t => if t = true then Q (.bl true) S else wE b G e S Q) q).post fun v H ⟨r, S, e, x, F, hS, hO, hx, hw, hf⟩ => ?_
  obtain ⟨t, rfl, ht⟩ := wB_bl hw
  cases hx
  refine ⟨t, rfl, ?_⟩
  cases t with
  | true => simp only [if_true] at ht ⊢; exact hf.bl hS ht
  | false => simp only [Bool.false_eq_true, if_false] at ht ⊢; exact ⟨r, S, e, F, hS, hO, ht, hf⟩
theorem t_not {Q : VK} (q : LE B (wE (.not a) G) σ H Q) : tNotV (LE B (wE a G)) σ H Q := by
  simp only [wE] at q
  refine (LE.bind (K := fun x e S Q => wB x fun t => Q (.bl (!t)) S) q).post fun v H ⟨r, S, e, x, F, hS, hO, hx, hw, hf⟩ => ?_
  obtain ⟨t, rfl, ht⟩ := wB_bl hw
  cases hx
  exact ⟨t, rfl, hf.bl hS ht⟩
/-- .. as a test -/
theorem LT.bind {w : Env' → Store → Post → Prop} {K : Bool → Env' → Store → (Bool → Store → Prop) → Prop} {Q : Bool → Hp → Prop} (h : ∃ r S e F, RS B r S H ∧ Ro B r H e σ ∧ w e S (fun d S1 => wB d fun t => K t e S1 F) ∧ FnB B r H F Q) :
    LT B w σ H fun t H1 => ∃ r S e F, RS B r S H1 ∧ Ro B r H1 e σ ∧ K t e S F ∧ FnB B r H1 F Q := by
  obtain ⟨r, S, e, F, hS, hO, hw, hf⟩ := h
  refine ⟨r, S, e, _, hS, hO, hw, fun t S1 r1 H1 hk ex s1 => ⟨r1, S1, e, F, s1, hO.mono ex, hk, fun b S2 r2 H2 hb ex2 s2 => hf b S2 r2 H2 hb (ex.trans ex2) s2⟩⟩
theorem FnB.here {r : Rg} {S : Store} {F : Bool → Store → Prop} {Q : Bool → Hp → Prop} (f : FnB B r H F Q) (s : RS B r S H) {t : Bool} (h : F t S) : Q t H := f t S r H h .refl s
theorem wE_imp_and {e : Env'} {S : Store} {F : Bool → Store → Prop} (h : wE (.and a b) G e S fun d S' => wB d fun b => F b S') :
    wE a G e S fun d S1 => wB d fun t => if t = true then wE b G e S1 (fun d S' => wB d fun b => F b S') else F false S1 := by
  simp only [wE] at h
  exact h
theorem s_and {Q : Bool → Hp → Prop} (q : LT B (wE (.and a b) G) σ H Q) : tAnd (LT B (wE a G)) (LT B (wE b G)) σ H Q := by
  obtain ⟨r, S, e, F, hS, hO, hw, hf⟩ := q
  obtain ⟨r, S, e, F, hS, hO, hw, hf⟩ := LT.bind (K := fun t e S F => if t = true then wE b G e S (fun d S' => wB d fun b => F b S') else F false S) ⟨r, S, e, F, hS, hO, wE_imp_and hw, hf⟩
  refine ⟨r, S, e, F, hS, hO, hw, fun t S' r' H' h1 h2 h3 => ?_⟩
  obtain ⟨r, S, e, F, hS, hO, ht, hf⟩ := hf t S' r' H' h1 h2 h3
  cases t with
  | true => simp only [if_true] at ht ⊢; exact ⟨r, S, e, F, hS, hO, ht, hf⟩
  | false => simp only [Bool.false_eq_true, if_false] at ht ⊢; exact hf.here hS ht
theorem s_or {Q : Bool → Hp → Prop} (q : LT B (wE (.or a b) G) σ H Q) : tOr (LT B (wE a G)) (LT B (wE b G)) σ H Q := by
  obtain ⟨r, S, e, F, hS, hO, hw, hf⟩ := q
  simp only [wE] at hw
  obtain ⟨r, S, e, F, hS, hO, hw, hf⟩ := LT.bind (K := fun t e S F => if t = true then F true S else wE b G e S (fun d S' => wB d fun b => F b S')) ⟨r, S, e, F, hS, hO, hw, hf⟩
  refine ⟨r, S, e, F, hS, hO, hw, fun t S' r' H' h1 h2 h3 => ?_⟩
  obtain ⟨r, S, e, F, hS, hO, ht, hf⟩ := hf t S' r' H' h1 h2 h3
  cases t with
  | true => simp only [if_true] at ht ⊢; exact hf.here hS ht
  | false => simp only [Bool.false_eq_true, if_false] at ht ⊢; exact ⟨r, S, e, F, hS, hO, ht, hf⟩
theorem s_not {Q : Bool → Hp → Prop} (q : LT B (wE (.not a) G) σ H Q) : tNot (LT B (wE a G)) σ H Q := by
  obtain ⟨r, S, e, F, hS, hO, hw, hf⟩ := q
  simp only [wE] at hw
  refine ⟨r, S, e, fun t S => F (!t) S, hS, hO, hw, fun t S' r' H' h1 h2 h3 => hf _ S' r' H' h1 h2 h3⟩
theorem t_ite {Q : VK} (q : LE B (wE (.ite c a b) G) σ H Q) : tIf (LT B (wE c G)) (LE B (wE a G)) (LE B (wE b G)) σ H Q := by
  obtain ⟨r, S, e, F, hS, hO, hw, hf⟩ := q
  simp only [wE] at hw
  refine ⟨r, S, e, _, hS, hO, hw, fun t S' r' H' h1 h2 h3 => ?_⟩
  cases t with
  | true => simp only [if_true] at h1 ⊢; exact ⟨r', S', e, F, h3, hO.mono h2, h1, hf.trans h2⟩
  | false => simp only [Bool.false_eq_true, if_false] at h1 ⊢; exact ⟨r', S', e, F, h3, hO.mono h2, h1, hf.trans h2⟩
def sIf (t : TT) (ta tb : TT) : TT := fun σ H Q => t σ H fun c H1 => if c = true then ta σ H1 Q else tb σ H1 Q
theorem pt_ifExp {tc ta tb : TT} (hc : PT X ec tc) (ha : PT X ea ta) (hb : PT X eb tb) : PT X (.IfExp ec ea eb pos) (sIf tc ta tb) := by
  refine ⟨fun pins s σ H Q I h => isTrue_IfExp (thn (hc.run pins s σ H _ I h) fun d s1 ⟨H1, I1, q1⟩ => ?_)⟩
  cases d with
  | true => exact ha.run pins s1 σ H1 Q I1 q1
  | false => exact hb.run pins s1 σ H1 Q I1 q1
theorem s_ite {Q : Bool → Hp → Prop} (q : LT B (wE (.ite c a b) G) σ H Q) : sIf (LT B (wE c G)) (LT B (wE a G)) (LT B (wE b G)) σ H Q := by
  obtain ⟨r, S, e, F, hS, hO, hw, hf⟩ := q
  simp only [wE] at hw
  refine ⟨r, S, e, _, hS, hO, hw, fun t S' r' H' h1 h2 h3 => ?_⟩
  have hf' : FnB B r' H' F Q := fun b S2 r2 H2 hb ex2 s2 => hf b S2 r2 H2 hb (h2.trans ex2) s2
  cases t with
  | true => simp only [if_true] at h1 ⊢; exact ⟨r', S', e, F, h3, hO.mono h2, h1, hf'⟩
  | false => simp only [Bool.false_eq_true, if_false] at h1 ⊢; exact ⟨r', S', e, F, h3, hO.mono h2, h1, hf'⟩

/-! displays, items, slices -/
variable {es : List Expr} {ir ks : Es}
theorem c_tup {k : Nat} (h : PA X es (LEs B es.length (wEs ir G))) : PE X (.Tuple es k pos) (LE B (wE (.tup ir) G)) :=
  PE.imp (pe_tup h) fun σ H Q q => by
    simp only [wE] at q
    exact LEs.mid (K := fun ds S Q => ds.length ≤ sizeLine ∧ Q (.tup ds) S) q fun ds S r H vs F hn hk hS hv hf => ⟨by rw [← hv.length]; exact hk.1, hf.tup hS hk.2 hv⟩
theorem c_lst {m : Bool} (h : PA X es (LEs B es.length (wEs ir G))) : PE X (.List es pos) (LE B (wE (.lst m ir) G)) :=
  PE.imp (pe_lst h) fun σ H Q q => by
    simp only [wE] at q
    exact LEs.mid (K := fun ds S Q => ds.length ≤ sizeLine ∧ mkL m ds S Q) q fun ds S r H vs F hn hk hS hv hf => ⟨by rw [← hv.length]; exact hk.1, hf.mk hS hk.2 hv⟩
theorem c_ix (ok : XOk C B L G X sc) (hi : isIx eb = true) (ha : PE X ea (LE B (wE a G))) (hb : PE X eb (LE B (wE b G))) : PE X (.Subscript ea eb pos) (LE B (wE (.ix a b) G)) :=
  PE.imp (pe_ix (ix_any (B := B) ok.hK ok.un) ha hb (plainIx_of hi)) fun σ H Q q => by
    simp only [wE] at q
    refine (LE.bind (K := fun x e S Q => wE b G e S fun y S2 => wIx x y S2 Q) q).post fun v H q => ?_
    exact (A1.bind (K := fun x y e S Q => wIx x y S Q) q).post fun u H q => A2.op q
theorem po_no : PO X none (LO B (wO .no G)) := ⟨fun pins s σ H Q I ⟨r, S, e, F, hS, hO, hw, hf⟩ => po_none.run pins s σ H Q I (hf none S r H (by simpa [wO] using hw) .refl hS)⟩
theorem po_so (ha : PE X ea (LE B (wE a G))) : PO X (some ea) (LO B (wO (.so a) G)) := ⟨fun pins s σ H Q I ⟨r, S, e, F, hS, hO, hw, hf⟩ => (po_some ha).run pins s σ H Q I ⟨r, S, e, _, hS, hO, by simpa only [wO] using hw, fun d S' r' H' v h1 h2 h3 h4 => by
  cases h4 <;> first | exact h1.elim | exact ⟨_, rfl, hf _ S' r' H' h1 h2 h3⟩⟩⟩
theorem c_sl (ok : XOk C B L G X sc) {m : Bool} {lo hi : Option Expr} {l h : Oe} {p2 : Pos} (ha : PE X ea (LE B (wE a G))) (hl : PO X lo (LO B (wO l G))) (hh : PO X hi (LO B (wO h G))) : PE X (.Subscript ea (.Slice lo hi none p2) pos) (LE B (wE (.sl m a l h) G)) :=
  PE.imp (pe_slice (sl_any (m := m) (B := B) ok.hK) ha hl hh) fun σ H Q q => by
    simp only [wE] at q
    refine (LE.bind (K := fun x e S Q => wO l G e S fun lo S2 => wO h G e S2 fun hi S3 => wSl m x lo hi S3 Q) q).post fun v H ⟨r, S, e, x, F, hS, hO, hx, hw, hf⟩ => ?_
    refine ⟨r, S, e, _, hS, hO, hw, fun lo S1 r1 H1 hw1 e1 s1 => ⟨r1, S1, e, _, s1, hO.mono e1, hw1, fun hi S2 r2 H2 hw2 e2 s2 => ?_⟩⟩
    exact ⟨r2, S2, x, F, s2, (hx.mono e1).mono e2, hw2, (hf.trans e1).trans e2⟩
theorem c_rv (ok : XOk C B L G X sc) {m : Bool} {k : Nat} {p1 p2 p3 : Pos} (ha : PE X ea (LE B (wE a G))) : PE X (.Subscript ea (.Slice none none (some (.UnaryOp .USub (.Constant (.int 1) k p1) p2)) p3) pos) (LE B (wE (.rv m a) G)) :=
  PE.imp (pe_revL ha) fun σ H Q q => by
    simp only [wE] at q
    refine (LE.bind (K := fun x e S Q => wRv m x S Q) q).post fun v H ⟨r, S, e, x, F, hS, hO, hx, hw, hf⟩ => ?_
    obtain ⟨xs, h1, h2⟩ := hw
    obtain ⟨a, vs, rfl, k, hv⟩ := lsOf_at hS h1 hx
    exact ⟨a, vs, rfl, by rw [ok.hK]; exact k, hf.mk hS h2 hv.rev⟩

/-! calls -/
/-- a call of a built-in function or class that a name of the module's is bound to -/
theorem pe_callV {f : Value} {rr : List V → Hp → VK → Prop} {x : Str} {p : Pos} {e : Expr} {t : TA} (hk : (∃ id, f = .builtin id) ∨ ∃ T, f = .type T) (hc : CallR X f rr) (hg : Gl X x) (hx : X.mg x = some f ∨ (X.mg x = none ∧ bootBuiltins x = some f)) (hn : x ≠ "__name__") (hd : (x == ("__debug__" : Str)) = false)
    (ha : PA X (e :: es) t) (he : isArg e = true) (hes : allArg es = true) : PE X (.Call (.Name x p) (e :: es) [] pos) (tCB rr t) := by
  refine ⟨fun pins s σ H Q I h => ?_⟩
  have go : wpAny (model X.prog X.w) X.A (callWith pos f [] (backTo pos (starEach (e :: es) X.env)) (backToKw pos (keywordEach [] X.env))) (EP X pins σ Q) X.xe s := by
    have body := thn (ha.run pos pins s σ H _ I h) fun us s1 ⟨vs, H1, I1, r1, q1⟩ => hc pins s1 σ H1 vs us Q I1 r1 q1
    rcases hk with ⟨id, rfl⟩ | ⟨T, rfl⟩
    · exact PyProof.Rows.callWith_builtin1 body (star_cons he) (plain_args hes)
    · exact PyProof.Rows.callWith_type1 body (star_cons he) (plain_args hes)
  rcases hx with hx | ⟨h1, h2⟩
  · exact wpAny_Call_Name_kw (ld_glob I hg hx go hd)
  · exact wpAny_Call_Name_kw (ld_blt I hg h1 h2 go hn hd)
theorem t_cb {n : Nat} {w : List D → Store → Post → Prop} {Q : VK} (q : LE B (fun e S Q => wEs ir G e S fun ds S1 => w ds S1 Q) σ H Q) : tCB (LCop B w) (LEs B n (wEs ir G)) σ H Q :=
  LEs.mid (K := w) q fun ds S r H vs F _ hk hS hv hf => ⟨r, S, ds, F, hS, hv, hk, hf⟩
theorem biVal_kind (f : Bi) : (∃ id, biVal f = .builtin id) ∨ ∃ T, biVal f = .type T := by cases f <;> first | exact .inl ⟨_, rfl⟩ | exact .inr ⟨_, rfl⟩
theorem blVal_kind (f : Bl) : (∃ id, blVal f = .builtin id) ∨ ∃ T, blVal f = .type T := by cases f <;> first | exact .inl ⟨_, rfl⟩ | exact .inr ⟨_, rfl⟩
theorem c_bi (ok : XOk C B L G X sc) (hh : C.hot = false) {f : Bi} {x : Str} {p : Pos} {e : Expr} (hx : x = biName f) (hg : isGl sc x = true) (hb : (if f = .isqrt then C.im.lookup x == some "math.isqrt" else hasBt C x) = true) (he : isArg e = true) (hes : allArg es = true)
    (ha : PA X (e :: es) (LEs B (e :: es).length (wEs ir G))) : PE X (.Call (.Name x p) (e :: es) [] pos) (LE B (wE (.bi f ir) G)) := by
  obtain ⟨h1, h2, h3⟩ := gl_of hg
  refine PE.imp (pe_callV (biVal_kind f) (bi_any (B := B) ok.hK (ok.calm hh) ok.gd ok.un f) (ok.glb hg) ?_ h2 h3 ha he hes) fun σ H Q q => ?_
  · rw [ok.hmg]
    by_cases hf : f = .isqrt
    · subst hf
      simp only [if_true] at hb
      exact .inl (ok.im x _ (beq_iff_eq.mp hb))
    · rw [if_neg hf] at hb
      exact .inr ⟨ok.bt x hb, by rw [hx]; exact bi_boot f hf⟩
  · exact t_cb (w := wBi f) (by simpa only [wE] using q)
theorem c_bl (ok : XOk C B L G X sc) {m : Bool} {f : Bl} {x : Str} {p : Pos} {e : Expr} (hx : x = blName f) (hg : isGl sc x = true) (hb : hasBt C x = true) (he : isArg e = true) (hes : allArg es = true)
    (ha : PA X (e :: es) (LEs B (e :: es).length (wEs ir G))) : PE X (.Call (.Name x p) (e :: es) [] pos) (LE B (wE (.bl m f ir) G)) := by
  obtain ⟨h1, h2, h3⟩ := gl_of hg
  refine PE.imp (pe_callV (blVal_kind f) (bl_any (m := m) (B := B) ok.hK ok.un f) (ok.glb hg) (.inr ⟨by rw [ok.hmg]; exact ok.bt x hb, by rw [hx]; exact bl_boot f⟩) h2 h3 ha he hes) fun σ H Q q => ?_
  exact t_cb (w := wBl m f) (by simpa only [wE] using q)
end
end M

set_option Elab.async false
set_option maxRecDepth 100000
set_option maxHeartbeats 8000000
/-! M9: calls of own functions, methods, walks, targets, comprehensions. -/
namespace M
open PySem L2
open PyProof.Rows hiding St

section
variable {B : Bk1} {C : Ck} {G : Gam} {X : Cx} {sc : Scope} {L : Nat} {σ : L2.St} {H : Hp}
variable {a b c : E} {ea eb ec : Expr} {pos : Pos} {es : List Expr} {ir ks : Es}
theorem RVs.pmut {r : Rg} {H : Hp} {ds : List D} {vs : List V} (h : RVs B r H ds vs) : ∀ pm : List Nat, RVs B r H (pmut pm ds) (pmut pm vs)
  | [] => .nil
  | i :: pm => by
    have ih := RVs.pmut h pm
    unfold M.pmut at ih ⊢
    rw [List.filterMap_cons, List.filterMap_cons]
    cases e : ds[i]? with
    | none =>
      have e2 : vs[i]? = none := by
        cases q : vs[i]? with
        | none => rfl
        | some v => obtain ⟨d, h1, _⟩ := h.getV q; rw [e] at h1; cases h1
      rw [e2]; exact ih
    | some d =>
      obtain ⟨v, h1, h2⟩ := h.get e
      rw [h1]; exact .cons h2 ih
theorem Vals.pmut {vs : List V} {us : List Value} (h : Vals vs us) : ∀ pm : List Nat, Vals (pmut pm vs) (pmut pm us)
  | [] => .nil
  | i :: pm => by
    have ih := Vals.pmut h pm
    unfold M.pmut at ih ⊢
    rw [List.filterMap_cons, List.filterMap_cons]
    cases e : vs[i]? with
    | none => rw [h.none_of e]; exact ih
    | some d =>
      obtain ⟨v, h1, h2⟩ := h.get e
      rw [h1]; exact .cons h2 ih
/-- the call itself -/
theorem own_run (ok : XOk C B L G X sc) (hh : C.hot = false) {k : Nat} {x : Str} {ps : List Str} {ms : MSp} {f : Addr} {fd : FuncData} (hG : G.fs[k]? = some ms) (Fk : Fx X.prog X.w B.K B.mg X.base L f fd ps (LSp B ms))
    {pins : List (Addr × Obj)} {s : Shared} {Q : VK} {us bs : List Value} {kws : List (Str × Value)} {vs : List V} {r : Rg} {S : Store} {e : Env'} {ds : List D} {F : Post} (I : Inv X pins σ H s) (hS : RS B r S H) (hO : Ro B r H e σ) (hd : RVs B r H ds vs)
    (hb : BindsTo s fd ⟨us, kws⟩ (ps.zip bs)) (hl : bs.length = ps.length) (rv : Vals vs bs) (hw : wCall G k ds e S F) (hf : Fn B r H F Q) : wpAny (model X.prog X.w) X.A (call (.ref f) us kws) (EP X pins σ Q) X.xe s := by
  have Fk' : Fx X.prog X.w X.K X.mg X.base L f fd ps (LSp B ms) := by rw [ok.hK, ok.hmg]; exact Fk
  refine fx_run Fk' (ok.room hh) ok.gd ok.tk I hb hl rv ?_
  unfold wCall at hw
  rw [hG] at hw
  refine ⟨r, S, ds, F, _, hS, hd, hw, hf, fun d S' r' H' c dx h1 h2 h3 h4 => ⟨r', S', e, d, h3, hO.mono h2, h4, h1⟩⟩
theorem c_call (ok : XOk C B L G X sc) (hh : C.hot = false) {k : Nat} {x : Str} {ps : List Str} {pats : List (Nat × List Str)} {p : Pos} {e0 : Expr} {es0 : List Expr} (hC : C.fn[k]? = some (x, ps, pats)) (hg : isGl sc x = true) (hn : (e0 :: es0).length = ps.length) (hes : allArg (e0 :: es0) = true)
    (ha : PA X (e0 :: es0) (LEs B (e0 :: es0).length (wEs ir G))) : PE X (.Call (.Name x p) (e0 :: es0) [] pos) (LE B (wE (.call k ir) G)) := by
  obtain ⟨ms, hG, f, fd, L', hL, hA, h3, h4'⟩ := ok.fn k x ps pats hC
  obtain ⟨h1, h2⟩ := hA.own (gl_dot hg)
  have h4 := h4'.mono (show L' ≤ L by omega)
  obtain ⟨g1, g2, g3⟩ := gl_of hg
  refine ⟨fun pins s σ H Q I h => ?_⟩
  obtain ⟨r, S, e, F, hS, hO, hw, hf⟩ := h
  simp only [wE] at hw
  have hm : X.mg x = some (.ref f) := by rw [ok.hmg]; exact h1
  have hk : PySem.W.keepIn X.K (.ref f) = true := by rw [ok.hK]; exact h2
  refine wpAny_Call_Name_kw (ld_glob I (ok.glb hg) hm ?_ g3)
  have body := ha.run pos pins s σ H (fun vs H1 => ∃ r S e ds F, RS B r S H1 ∧ Ro B r H1 e σ ∧ RVs B r H1 ds vs ∧ ds.length = (e0 :: es0).length ∧ wCall G k ds e S F ∧ Fn B r H1 F Q) I
    ⟨r, S, e, _, hS, hO, hw, fun ds S' r' H' vs hn q1 q2 q3 q4 => ⟨r', S', e, ds, F, q3, hO.mono q2, q4, hn, q1, hf.trans q2⟩⟩
  have he : isArg e0 = true ∧ allArg es0 = true := by simpa [allArg] using hes
  refine PySem.W.callWith_K (h₀ := X.base) I.ok.mod.kin hk (thn body fun us s1 ⟨vs, H1, I1, rv, r, S, e, ds, F, hS, hO, hd, hn1, hw, hf⟩ => ⟨I1.kIn, ?_⟩) (star_cons he.1) (plain_args he.2)
  have hlen : us.length = ps.length := by rw [← rv.length, ← hd.length, hn1]; exact hn
  exact own_run (us := us) (bs := us) (kws := []) ok hh (x := x) hG h4 I1 hS hO hd (.of_eq (h3.pos us hlen)) hlen rv hw hf
theorem c_call0 (ok : XOk C B L G X sc) (hh : C.hot = false) {k : Nat} {x : Str} {ps : List Str} {pats : List (Nat × List Str)} {p : Pos} (hC : C.fn[k]? = some (x, ps, pats)) (hg : isGl sc x = true) (hn : 0 = ps.length) :
    PE X (.Call (.Name x p) [] [] pos) (LE B (wE (.call k .nil) G)) := by
  obtain ⟨ms, hG, f, fd, L', hL, hA, h3, h4'⟩ := ok.fn k x ps pats hC
  obtain ⟨h1, h2⟩ := hA.own (gl_dot hg)
  have h4 := h4'.mono (show L' ≤ L by omega)
  obtain ⟨g1, g2, g3⟩ := gl_of hg
  refine ⟨fun pins s σ H Q I h => ?_⟩
  obtain ⟨r, S, e, F, hS, hO, hw, hf⟩ := h
  simp only [wE, wEs] at hw
  have hm : X.mg x = some (.ref f) := by rw [ok.hmg]; exact h1
  have hk : PySem.W.keepIn X.K (.ref f) = true := by rw [ok.hK]; exact h2
  refine wpAny_Call_Name_kw (ld_glob I (ok.glb hg) hm ?_ g3)
  exact PySem.W.callWith_K0 I.kIn hk (own_run (us := []) (bs := []) (kws := []) ok hh (x := x) hG h4 I hS hO .nil (.of_eq (h3.pos [] hn)) hn .nil hw hf)
/-- with keywords -/
theorem c_callK (ok : XOk C B L G X sc) (hh : C.hot = false) {k : Nat} {x : Str} {ps ns : List Str} {pats : List (Nat × List Str)} {p : Pos} {pm : List Nat} {kws : List Keyword} (hC : C.fn[k]? = some (x, ps, pats)) (hg : isGl sc x = true) (hp : (es.length, ns) ∈ pats) (hns : kwNames kws = some ns) (hpm : pm = pmOf es.length ps ns)
    (hes : allArg es = true) (ha : PA X es (LEs B es.length (wEs ir G))) (hk : PK X kws (LEs B kws.length (wEs ks G))) (hnl : ns.length = kws.length) (h0 : es = [] → ir = .nil) : PE X (.Call (.Name x p) es kws pos) (LE B (wE (.callK k pm ir ks) G)) := by
  obtain ⟨ms, hG, f, fd, L', hL, hA, h3, h4'⟩ := ok.fn k x ps pats hC
  obtain ⟨h1, h2⟩ := hA.own (gl_dot hg)
  have h4 := h4'.mono (show L' ≤ L by omega)
  obtain ⟨g1, g2, g3⟩ := gl_of hg
  refine ⟨fun pins s σ H Q I h => ?_⟩
  obtain ⟨r, S, e, F, hS, hO, hw, hf⟩ := h
  simp only [wE] at hw
  have hm : X.mg x = some (.ref f) := by rw [ok.hmg]; exact h1
  have hkk : PySem.W.keepIn X.K (.ref f) = true := by rw [ok.hK]; exact h2
  obtain ⟨n1, n2, n3⟩ := kw_names (pos := pos) (env := X.env) hns
  refine wpAny_Call_Name_kw (ld_glob I (ok.glb hg) hm ?_ g3)
  -- the keywords, then the call
  have fin : ∀ {us : List Value} {vs : List V} {s1 : Shared} {H1 : Hp} {r : Rg} {S : Store} {e : Env'} {ds : List D}, Inv X pins σ H1 s1 → Vals vs us → RS B r S H1 → Ro B r H1 e σ → RVs B r H1 ds vs → ds.length = es.length → Fn B r H1 F Q →
      wEs ks G e S (fun zs S2 => wCall G k (pmut pm (ds ++ zs)) e S2 F) →
      wpAny (model X.prog X.w) X.A (evalAll ((backToKw pos (keywordEach kws X.env)).map (·.2))) (fun ws s2 => X.K.In s2.heap ∧ wpAny (model X.prog X.w) X.A (call (.ref f) ([] ++ us) (((backToKw pos (keywordEach kws X.env)).filterMap (·.1)).zip ws)) (EP X pins σ Q) X.xe s2) X.xe s1 := by
    intro us vs s1 H1 r S e ds I1 rv hS hO hd hn1 hf hw
    refine thn (hk.run pos pins s1 σ H1 (fun zs H2 => ∃ r S e ds ws2 F, RS B r S H2 ∧ Ro B r H2 e σ ∧ RVs B r H2 ds vs ∧ RVs B r H2 ws2 zs ∧ ds.length = es.length ∧ ws2.length = kws.length ∧ wCall G k (pmut pm (ds ++ ws2)) e S F ∧ Fn B r H2 F Q) I1
      ⟨r, S, e, _, hS, hO, hw, fun zs S' r' H' vs hn q1 q2 q3 q4 => ⟨r', S', e, ds, zs, F, q3, hO.mono q2, hd.mono q2, q4, hn1, hn, q1, hf.trans q2⟩⟩) fun ws s2 ⟨zs, H2, I2, rz, r, S, e, ds, ws2, F, hS, hO, hd, hz, hn1, hn2, hw, hf⟩ => ⟨I2.kIn, ?_⟩
    rw [n2]
    have l1 : us.length = es.length := by rw [← rv.length, ← hd.length, hn1]
    have l2 : ws.length = ns.length := by rw [← rz.length, ← hz.length, hn2, hnl]
    obtain ⟨b1, b2⟩ := h3.kw (es.length, ns) hp us ws l1 l2
    refine own_run (us := us) (bs := pmut (pmOf es.length ps ns) (us ++ ws)) (kws := ns.zip ws) ok hh (x := x) hG h4 I2 hS hO (RVs.pmut (hd.append hz) (pmOf es.length ps ns)) (.of_eq b1) b2 (Vals.pmut (rv.append rz) _) ?_ hf
    rw [← hpm]; exact hw
  cases es with
  | nil =>
    have hir := h0 rfl
    subst hir
    simp only [wEs] at hw
    exact PySem.W.callWith_KW0 (h₀ := X.base) I.ok.mod.kin hkk n1 (fin I .nil hS hO .nil rfl hf hw) (by rw [n3]; rfl)
  | cons e0 es0 =>
    have he : isArg e0 = true ∧ allArg es0 = true := by simpa [allArg] using hes
    have body := ha.run pos pins s σ H (fun vs H1 => ∃ r S e ds, RS B r S H1 ∧ Ro B r H1 e σ ∧ RVs B r H1 ds vs ∧ ds.length = (e0 :: es0).length ∧ Fn B r H1 F Q ∧ wEs ks G e S (fun zs S2 => wCall G k (pmut pm (ds ++ zs)) e S2 F)) I
      ⟨r, S, e, _, hS, hO, hw, fun ds S' r' H' vs hn q1 q2 q3 q4 => ⟨r', S', e, ds, q3, hO.mono q2, q4, hn, hf.trans q2, q1⟩⟩
    refine PySem.W.callWith_KW (h₀ := X.base) I.ok.mod.kin hkk n1 (thn body fun us s1 ⟨vs, H1, I1, rv, r, S, e, ds, hS, hO, hd, hn1, hf, hw⟩ => fin I1 rv hS hO hd hn1 hf hw) ?_ (star_cons he.1)
    rw [n3, star_cons he.1]
    show ((false || (backTo pos (starEach es0 X.env)).any (·.1)) || false) = false
    rw [plain_args he.2]; rfl

/-! methods -/
theorem me_slot : ∀ f : Me, Slot "list" (meName f) (meId f)
  | .append => PySem.F.slot_list_append
  | .pop => PySem.F.slot_list_pop
  | .extend => PySem.F.slot_list_extend
  | .index => PySem.F.slot_list_index
  | .remove => PySem.F.slot_list_remove
  | .reverse => PySem.F.slot_list_reverse
  | .insert => PySem.F.slot_list_insert
  | .clear => PySem.F.slot_list_clear
theorem me_type : ∀ f : Me, typeOf (.builtin (meId f)) = pure (.type "method_descriptor")
  | .append => PySem.F.type_list_append
  | .pop => PySem.F.type_list_pop
  | .extend => PySem.F.type_list_extend
  | .index => PySem.F.type_list_index
  | .remove => PySem.F.type_list_remove
  | .reverse => PySem.F.type_list_reverse
  | .insert => PySem.F.type_list_insert
  | .clear => PySem.F.type_list_clear
theorem mt_of {id : String} {rr : V → List V → Hp → VK → Prop} (h : MtM X id rr) : MtR X id rr := h
theorem c_me (ok : XOk C B L G X sc) {f : Me} {name : Str} {apos : Pos} (hnm : name = meName f) (hl : (apos.endLine == pos.line) = true) (hr : isRecv ea = true) (hes : allArg es = true) (hlt : es.length < 20)
    (ho : PE X ea (LE B (wE a G))) (ha : PA X es (LEs B es.length (wEs ir G))) (h0 : es = [] → ir = .nil) : PE X (.Call (.Attribute ea name apos) es [] pos) (LE B (wE (.me f a ir) G)) := by
  subst hnm
  have key : ∀ {σ H Q}, LE B (wE (.me f a ir) G) σ H Q → LE B (wE a G) σ H fun v H1 => ∃ r S e o F, RS B r S H1 ∧ Ro B r H1 e σ ∧ RV B r H1 o v ∧ ((lsOf S o).isSome = true ∧ wEs ir G e S fun ds S2 => wMe f o ds S2 F) ∧ Fn B r H1 F Q := by
    intro σ H Q q
    simp only [wE] at q
    exact LE.bind (K := fun o e S Q => (lsOf S o).isSome = true ∧ wEs ir G e S fun ds S2 => wMe f o ds S2 Q) q
  have ty : ∀ {r : Rg} {S : Store} {H : Hp} {o : D} {v : V}, RS B r S H → RV B r H o v → (lsOf S o).isSome = true → tyV X.K "list" v H := by
    intro r S H o v hS ho h
    obtain ⟨ds, h1⟩ := Option.isSome_iff_exists.mp h
    obtain ⟨a, vs, rfl, k, _⟩ := lsOf_at hS h1 ho
    exact .inl ⟨rfl, vs, by rw [ok.hK]; exact k⟩
  cases es with
  | nil =>
    have hir := h0 rfl
    subst hir
    refine PE.imp (pe_bm0 PySem.F.plainAttrs_list (me_slot f) (me_type f) (mt_of (me_any (B := B) ok.hK ok.un f)) ho (base_of hr) hl) fun σ H Q q => (key q).post fun v H ⟨r, S, e, o, F, hS, hO, hv, ⟨h1, h2⟩, hf⟩ => ⟨ty hS hv h1, ?_⟩
    simp only [wEs] at h2
    exact ⟨r, S, o, [], F, hS, hv, .nil, h2, hf⟩
  | cons e0 es0 =>
    have he : isArg e0 = true ∧ allArg es0 = true := by simpa [allArg] using hes
    have hfew : ((backTo pos (starEach (e0 :: es0) X.env)).all (fun x => !x.1) && (backToKw pos (keywordEach [] X.env)).all (fun x => x.1.isSome) && decide ((e0 :: es0).length + ([] : List Keyword).length + (if ([] : List Keyword).isEmpty then 0 else 1) < 30)) = true := by
      rw [all_args hes, Bool.and_eq_true]
      refine ⟨rfl, decide_eq_true ?_⟩
      simp only [List.length_nil, List.isEmpty_nil, if_true]
      omega
    refine PE.imp (pe_bm PySem.F.plainAttrs_list (me_slot f) (me_type f) (mt_of (me_any (B := B) ok.hK ok.un f)) ho ha (base_of hr) hfew hl (star_cons he.1) (plain_args he.2)) fun σ H Q q => (key q).post fun v H ⟨r, S, e, o, F, hS, hO, hv, ⟨h1, h2⟩, hf⟩ => ⟨ty hS hv h1, ?_⟩
    exact ⟨r, S, e, _, hS, hO, h2, fun ds S' r' H' vs hn q1 q2 q3 q4 => ⟨r', S', o, ds, F, q3, hv.mono q2, q4, q1, hf.trans q2⟩⟩
end
end M

set_option Elab.async false
set_option maxRecDepth 100000
set_option maxHeartbeats 8000000
/-! MZ: walks over several lists or tuples at once, in any mix. -/
namespace M
open PySem L2
open PyProof.Rows hiding St

theorem nin2 {a b c : Nat} (h : ¬ a = b) (h2 : ¬ a = c) : a ∉ [b, c] := by
  intro m
  rcases List.mem_cons.mp m with q | q
  · exact h q
  · rw [List.mem_singleton] at q; exact h2 q
theorem neA {a b : Nat} (h : ¬ a = b) : a ≠ b := h
/-- a list (false) or a tuple (true) -/
def SqK (K : PySem.W.Frag) (t : Bool) (H : Hp) (a : Addr) (xs : List V) : Prop := match t with
  | true => SqT K H a xs
  | false => SqL K H a xs
def itK (t : Bool) (h : Heap) (I a : Addr) (i : Nat) : Prop := match t with
  | true => h.IsTupleIter I a i
  | false => h.IsListIter I a i
def hsK (t : Bool) (h : Heap) (a : Addr) (its : Array Value) : Prop := match t with
  | true => h.IsTuple a its
  | false => h.IsList a its
def obK (t : Bool) (a : Addr) : Obj := match t with
  | true => { cls := .type "tuple_iterator", data := .fields #[.ref a, .int 0 0] }
  | false => { cls := .type "list_iterator", data := .fields #[.ref a, .int 0 0] }
theorem itK.at {t : Bool} {h h' : Heap} {I a : Addr} {i : Nat} (x : itK t h I a i) (k : ∀ o, h.get? I = some o → h'.get? I = some o) : itK t h' I a i := by
  cases t
  · exact Heap.IsListIter.at x k
  · exact Heap.IsTupleIter.at x k
theorem itK.obj {t : Bool} {h : Heap} {I a : Addr} {i : Nat} (x : itK t h I a i) : ∃ o vs, h.get? I = some o ∧ o.data = .fields vs := by
  cases t
  · obtain ⟨o, h1, _, h2⟩ := x; exact ⟨o, _, h1, h2⟩
  · obtain ⟨o, h1, _, h2⟩ := x; exact ⟨o, _, h1, h2⟩
theorem itK.lt {t : Bool} {h : Heap} {I a : Addr} {i : Nat} (x : itK t h I a i) : I < h.objs.size := by
  obtain ⟨o, _, h1, _⟩ := x.obj; exact Heap.lt_size h1
theorem itK.new {t : Bool} {h : Heap} {I a : Addr} (e : h.get? I = some (obK t a)) : itK t h I a 0 := by
  cases t
  · exact ⟨_, e, rfl, rfl⟩
  · exact ⟨_, e, rfl, rfl⟩
theorem drawsK {prog : Program} {w : World} {A : Around} (t : Bool) (hh : A.handled = none) (it l : Addr) (hne : l ≠ it) (items : Array Value) :
    Draws prog w A it [it, l] items.size (fun i v => items[i]? = some v) (fun i h => itK t h it l i ∧ hsK t h l items) := by
  cases t
  · exact Draws.list hh it l hne items
  · exact Draws.tuple hh it l hne items
theorem beginsK (t : Bool) (l : Addr) (items : Array Value) : Begins (.ref l) (obK t l) (fun h => hsK t h l items) := by
  cases t
  · exact begins_list l items
  · exact begins_tuple l items
section
variable {X : Cx} {pins : List (Addr × Obj)} {σ : L2.St} {H : Hp} {s : Shared}
theorem inv_sqK {t : Bool} {a : Addr} {xs : List V} (I : Inv X pins σ H s) (h : SqK X.K t H a xs) : ∃ its : List Value, Vals xs its ∧ hsK t s.heap a its.toArray ∧ a < s.heap.objs.size := by
  cases t
  · obtain ⟨its, rv, p, _⟩ := I.list h
    exact ⟨its, rv, p.isList, p.lt⟩
  · obtain ⟨its, rv, p, _⟩ := I.tuple h
    exact ⟨its, rv, p, p.lt⟩
theorem sqK_inj {t : Bool} {a : Addr} {xs ys : List V} (I : Inv X pins σ H s) (h : SqK X.K t H a xs) (h' : SqK X.K t H a ys) : xs = ys := by
  cases t
  · exact I.list_inj h h'
  · exact I.tuple_inj h h'
end
/-- pairs -/
def Jz2 (K : PySem.W.Frag) (t1 t2 : Bool) (a b : Addr) : L2.It :=
  ⟨fun i H => ∃ (xs ys : List V) (x y : V), SqK K t1 H a xs ∧ SqK K t2 H b ys ∧ xs[i]? = some x ∧ ys[i]? = some y,
    fun i H v H' => ∃ T x y, v = .ref T ∧ H T = none ∧ H' = upd H T (.tup [x, y]) ∧ (∀ xs, SqK K t1 H a xs → xs[i]? = some x) ∧ ∀ ys, SqK K t2 H b ys → ys[i]? = some y,
    fun i H => ∃ xs ys : List V, SqK K t1 H a xs ∧ SqK K t2 H b ys ∧ min xs.length ys.length = i⟩
theorem fields_cell {vs : Array Value} {v : Option Value} (q : Data.fields vs = Data.cell v) : False := by cases q
theorem vals_two {x y : V} {u u2 : Value} (h : RelV x u) (h2 : RelV y u2) : Vals [x, y] [u, u2] := .cons h (.cons h2 .nil)
theorem turn_z2 {P : Program} {w : World} {K : PySem.W.Frag} {elts : List Expr} {kk : Nat} {tpos : Pos} {t1 t2 : Bool} {a b z TI TO i1 i2 : Addr} (D : ZipSep2 z TI TO i1 i2 [i1, a] [i2, b]) (ha : a ≠ i1) (hb : b ≠ i2) :
    Turn P w K (.Tuple elts kk tpos) (Jz2 K t1 t2 a b) [z, TI, TO, i1, i2] z (fun i h => IsZip h z TI TO .none ∧ IsTupOf2 h TI (.ref i1) (.ref i2) ∧ (∃ x y, IsTupOf2 h TO x y) ∧ itK t1 h i1 a i ∧ itK t2 h i2 b i) where
  mem := by simp
  obj := fun i h st c hc => by
    obtain ⟨hz, hTI, ⟨x, y, hTO⟩, h1, h2⟩ := st
    obtain ⟨o1, v1, e1, d1⟩ := h1.obj
    obtain ⟨o2, v2, e2, d2⟩ := h2.obj
    have e' : c = z ∨ c = TI ∨ c = TO ∨ c = i1 ∨ c = i2 := by simpa using hc
    rcases e' with q | q | q | q | q
    · rw [q]; exact ⟨_, hz, fun v q => nomatch q⟩
    · rw [q]; exact ⟨_, hTI, fun v q => nomatch q⟩
    · rw [q]; exact ⟨_, hTO, fun v q => nomatch q⟩
    · rw [q]; exact ⟨o1, e1, fun v q => fields_cell (d1.symm.trans q)⟩
    · rw [q]; exact ⟨o2, e2, fun v q => fields_cell (d2.symm.trans q)⟩
  keep := fun i h h' st k => by
    obtain ⟨hz, hTI, ⟨x, y, hTO⟩, h1, h2⟩ := st
    exact ⟨k z (by simp) _ hz, k TI (by simp) _ hTI, ⟨x, y, k TO (by simp) _ hTO⟩, h1.at fun o q => k i1 (by simp) o q, h2.at fun o q => k i2 (by simp) o q⟩
  item := by
    intro X hP hw hK hc i pins s σ H E I hf st hg
    subst hP hw hK
    obtain ⟨hz, hTI, ⟨x0, y0, hTO⟩, h1, h2⟩ := st
    obtain ⟨xs, ys, x, y, hqx, hqy, hx, hy⟩ := hg
    obtain ⟨its, rv, p, _⟩ := inv_sqK I hqx
    obtain ⟨its2, rv2, p2, _⟩ := inv_sqK I hqy
    obtain ⟨u, hu, ru⟩ := rv.get hx
    obtain ⟨u2, hu2, ru2⟩ := rv2.get hy
    have n1 : i < its.toArray.size := by rw [List.size_toArray]; exact (List.getElem?_eq_some_iff.mp hu).1
    have n2 : i < its2.toArray.size := by rw [List.size_toArray]; exact (List.getElem?_eq_some_iff.mp hu2).1
    have D1 := drawsK (prog := X.prog) (w := X.w) (A := X.A.in1) t1 (I.ok.hd hc) i1 a ha its.toArray
    have D2 := drawsK (prog := X.prog) (w := X.w) (A := X.A.in1) t2 (I.ok.hd hc) i2 b hb its2.toArray
    have W := GoesN.zip2 (elts := elts) (x1 := kk) (pos := tpos) D D1 D2
    refine W.goes i s (fun v s2 => ∃ x H', Inv X pins σ H' s2 ∧ RelV x v ∧ (Jz2 X.K t1 t2 a b).yld i H x H' ∧ _ ∧ ∀ c ∈ [z, TI, TO, i1, i2], H' c = none) E (by omega) ⟨hz, hTI, ⟨x0, y0, hTO⟩, ⟨h1, p⟩, ⟨h2, p2⟩⟩ fun v h' tk hY st' hk htk => ?_
    obtain ⟨T, w1, w2, rfl, hT, e1, e2, hTT⟩ := hY
    have e1' : w1 = u := by
      have : its[i]? = some w1 := by simpa using e1
      rw [hu] at this; cases this; rfl
    have e2' : w2 = u2 := by
      have : its2[i]? = some w2 := by simpa using e2
      rw [hu2] at this; cases this; rfl
    subst e1' e2'
    have new : ObjOk X.prog X.w (upd H T (.tup [x, y])) h' T (.tup [x, y]) := ⟨by show 2 ≤ sizeLine; decide, [w1, w2], vals_two ru ru2, hTT⟩
    have I1 : Inv X pins σ (upd H T (.tup [x, y])) { s with heap := h', toks := tk } :=
      I.turnedNew (t' := tk) (ch := [z, TO, i1, i2]) hk (fun c hc => hf c (by
        have : c = z ∨ c = TO ∨ c = i1 ∨ c = i2 := by simpa using hc
        rcases this with q | q | q | q <;> simp [q])) hT new
    obtain ⟨s1, s2, ⟨a1, a2, s3⟩, s4, s5⟩ := st'
    refine ⟨.ref T, _, I1, rfl, ⟨T, x, y, rfl, I.hok.fresh hT, rfl, fun l hl => by rw [sqK_inj I hl hqx]; exact hx, fun l hl => by rw [sqK_inj I hl hqy]; exact hy⟩, ⟨s1, s2, ⟨a1, a2, s3⟩, s4.1, s5.1⟩, fun c hcm => ?_⟩
    have hlt : c < s.heap.objs.size := by
      have e' : c = z ∨ c = TI ∨ c = TO ∨ c = i1 ∨ c = i2 := by simpa using hcm
      rcases e' with q | q | q | q | q
      · rw [q]; exact Heap.lt_size hz
      · rw [q]; exact Heap.lt_size hTI
      · rw [q]; exact Heap.lt_size hTO
      · rw [q]; exact h1.lt
      · rw [q]; exact h2.lt
    rw [upd_ne (Nat.ne_of_lt (Nat.lt_of_lt_of_le hlt hT))]
    exact (hf c hcm).1
  done := by
    intro X hP hw hK hc i pins s σ H E I hf st hg
    subst hP hw hK
    obtain ⟨hz, hTI, ⟨x0, y0, hTO⟩, h1, h2⟩ := st
    obtain ⟨xs, ys, hqx, hqy, hend⟩ := hg
    obtain ⟨its, rv, p, _⟩ := inv_sqK I hqx
    obtain ⟨its2, rv2, p2, _⟩ := inv_sqK I hqy
    have l1 := rv.length
    have l2 := rv2.length
    have D1 := drawsK (prog := X.prog) (w := X.w) (A := X.A.in1) t1 (I.ok.hd hc) i1 a ha its.toArray
    have D2 := drawsK (prog := X.prog) (w := X.w) (A := X.A.in1) t2 (I.ok.hd hc) i2 b hb its2.toArray
    have W := GoesN.zip2 (elts := elts) (x1 := kk) (pos := tpos) D D1 D2
    have en : min its.toArray.size its2.toArray.size = i := by rw [List.size_toArray, List.size_toArray]; omega
    rw [en] at W
    exact W.stops s (fun s1 => Inv X pins σ H s1) E ⟨hz, hTI, ⟨x0, y0, hTO⟩, ⟨h1, p⟩, ⟨h2, p2⟩⟩ fun h' tk hk htk => I.turnedL (t' := tk) (ch := [z, TO, i1, i2]) hk (fun c hc => hf c (by
        have : c = z ∨ c = TO ∨ c = i1 ∨ c = i2 := by simpa using hc
        rcases this with q | q | q | q <;> simp [q]))
  self := fun A i s Q E st h => wpAny_pyIter_zip st.1 h
theorem vals_three {x y z : V} {u u2 u3 : Value} (h : RelV x u) (h2 : RelV y u2) (h3 : RelV z u3) : Vals [x, y, z] [u, u2, u3] := .cons h (.cons h2 (.cons h3 .nil))
/-- triples -/
def Jz3 (K : PySem.W.Frag) (t1 t2 t3 : Bool) (a b c : Addr) : L2.It :=
  ⟨fun i H => ∃ (xs ys zs : List V) (x y z : V), SqK K t1 H a xs ∧ SqK K t2 H b ys ∧ SqK K t3 H c zs ∧ xs[i]? = some x ∧ ys[i]? = some y ∧ zs[i]? = some z,
    fun i H v H' => ∃ T x y z, v = .ref T ∧ H T = none ∧ H' = upd H T (.tup [x, y, z]) ∧ (∀ xs, SqK K t1 H a xs → xs[i]? = some x) ∧ (∀ ys, SqK K t2 H b ys → ys[i]? = some y) ∧ ∀ zs, SqK K t3 H c zs → zs[i]? = some z,
    fun i H => ∃ xs ys zs : List V, SqK K t1 H a xs ∧ SqK K t2 H b ys ∧ SqK K t3 H c zs ∧ min (min xs.length ys.length) zs.length = i⟩
theorem turn_z3 {P : Program} {w : World} {K : PySem.W.Frag} {elts : List Expr} {kk : Nat} {tpos : Pos} {t1 t2 t3 : Bool} {a b c z TI TO i1 i2 i3 : Addr} (D : ZipSep3 z TI TO i1 i2 i3 [i1, a] [i2, b] [i3, c]) (ha : a ≠ i1) (hb : b ≠ i2) (hc3 : c ≠ i3) :
    Turn P w K (.Tuple elts kk tpos) (Jz3 K t1 t2 t3 a b c) [z, TI, TO, i1, i2, i3] z (fun i h => IsZip h z TI TO .none ∧ IsTupOf3 h TI (.ref i1) (.ref i2) (.ref i3) ∧ (∃ x y u, IsTupOf3 h TO x y u) ∧ itK t1 h i1 a i ∧ itK t2 h i2 b i ∧ itK t3 h i3 c i) where
  mem := by simp
  obj := fun i h st d hc => by
    obtain ⟨hz, hTI, ⟨x, y, u, hTO⟩, h1, h2, h3⟩ := st
    obtain ⟨o1, v1, e1, d1⟩ := h1.obj
    obtain ⟨o2, v2, e2, d2⟩ := h2.obj
    obtain ⟨o3, v3, e3, d3⟩ := h3.obj
    have e' : d = z ∨ d = TI ∨ d = TO ∨ d = i1 ∨ d = i2 ∨ d = i3 := by simpa using hc
    rcases e' with q | q | q | q | q | q
    · rw [q]; exact ⟨_, hz, fun v q => nomatch q⟩
    · rw [q]; exact ⟨_, hTI, fun v q => nomatch q⟩
    · rw [q]; exact ⟨_, hTO, fun v q => nomatch q⟩
    · rw [q]; exact ⟨o1, e1, fun v q => fields_cell (d1.symm.trans q)⟩
    · rw [q]; exact ⟨o2, e2, fun v q => fields_cell (d2.symm.trans q)⟩
    · rw [q]; exact ⟨o3, e3, fun v q => fields_cell (d3.symm.trans q)⟩
  keep := fun i h h' st k => by
    obtain ⟨hz, hTI, ⟨x, y, u, hTO⟩, h1, h2, h3⟩ := st
    exact ⟨k z (by simp) _ hz, k TI (by simp) _ hTI, ⟨x, y, u, k TO (by simp) _ hTO⟩, h1.at fun o q => k i1 (by simp) o q, h2.at fun o q => k i2 (by simp) o q, h3.at fun o q => k i3 (by simp) o q⟩
  item := by
    intro X hP hw hK hc i pins s σ H E I hf st hg
    subst hP hw hK
    obtain ⟨hz, hTI, ⟨x0, y0, z0, hTO⟩, h1, h2, h3⟩ := st
    obtain ⟨xs, ys, zs, x, y, zz, hqx, hqy, hqz, hx, hy, hzz⟩ := hg
    obtain ⟨its, rv, p, _⟩ := inv_sqK I hqx
    obtain ⟨its2, rv2, p2, _⟩ := inv_sqK I hqy
    obtain ⟨its3, rv3, p3, _⟩ := inv_sqK I hqz
    obtain ⟨u, hu, ru⟩ := rv.get hx
    obtain ⟨u2, hu2, ru2⟩ := rv2.get hy
    obtain ⟨u3, hu3, ru3⟩ := rv3.get hzz
    have n1 : i < its.toArray.size := by rw [List.size_toArray]; exact (List.getElem?_eq_some_iff.mp hu).1
    have n2 : i < its2.toArray.size := by rw [List.size_toArray]; exact (List.getElem?_eq_some_iff.mp hu2).1
    have n3 : i < its3.toArray.size := by rw [List.size_toArray]; exact (List.getElem?_eq_some_iff.mp hu3).1
    have D1 := drawsK (prog := X.prog) (w := X.w) (A := X.A.in1) t1 (I.ok.hd hc) i1 a ha its.toArray
    have D2 := drawsK (prog := X.prog) (w := X.w) (A := X.A.in1) t2 (I.ok.hd hc) i2 b hb its2.toArray
    have D3 := drawsK (prog := X.prog) (w := X.w) (A := X.A.in1) t3 (I.ok.hd hc) i3 c hc3 its3.toArray
    have W := GoesN.zip3 (elts := elts) (x1 := kk) (pos := tpos) D D1 D2 D3
    refine W.goes i s (fun v s2 => ∃ x H', Inv X pins σ H' s2 ∧ RelV x v ∧ (Jz3 X.K t1 t2 t3 a b c).yld i H x H' ∧ _ ∧ ∀ c ∈ [z, TI, TO, i1, i2, i3], H' c = none) E (by omega) ⟨hz, hTI, ⟨x0, y0, z0, hTO⟩, ⟨h1, p⟩, ⟨h2, p2⟩, ⟨h3, p3⟩⟩ fun v h' tk hY st' hk htk => ?_
    obtain ⟨T, w1, w2, w3, rfl, hT, e1, e2, e3, hTT⟩ := hY
    have e1' : w1 = u := by
      have : its[i]? = some w1 := by simpa using e1
      rw [hu] at this; cases this; rfl
    have e2' : w2 = u2 := by
      have : its2[i]? = some w2 := by simpa using e2
      rw [hu2] at this; cases this; rfl
    have e3' : w3 = u3 := by
      have : its3[i]? = some w3 := by simpa using e3
      rw [hu3] at this; cases this; rfl
    subst e1' e2' e3'
    have new : ObjOk X.prog X.w (upd H T (.tup [x, y, zz])) h' T (.tup [x, y, zz]) := ⟨by show 3 ≤ sizeLine; decide, [w1, w2, w3], vals_three ru ru2 ru3, hTT⟩
    have I1 : Inv X pins σ (upd H T (.tup [x, y, zz])) { s with heap := h', toks := tk } :=
      I.turnedNew (t' := tk) (ch := [z, TO, i1, i2, i3]) hk (fun c hc => hf c (by
        have : c = z ∨ c = TO ∨ c = i1 ∨ c = i2 ∨ c = i3 := by simpa using hc
        rcases this with q | q | q | q | q <;> simp [q])) hT new
    obtain ⟨s1, s2, ⟨a1, a2, a3, s3⟩, s4, s5, s6⟩ := st'
    refine ⟨.ref T, _, I1, rfl, ⟨T, x, y, zz, rfl, I.hok.fresh hT, rfl, fun l hl => by rw [sqK_inj I hl hqx]; exact hx, fun l hl => by rw [sqK_inj I hl hqy]; exact hy, fun l hl => by rw [sqK_inj I hl hqz]; exact hzz⟩, ⟨s1, s2, ⟨a1, a2, a3, s3⟩, s4.1, s5.1, s6.1⟩, fun c hcm => ?_⟩
    have hlt : c < s.heap.objs.size := by
      have e' : c = z ∨ c = TI ∨ c = TO ∨ c = i1 ∨ c = i2 ∨ c = i3 := by simpa using hcm
      rcases e' with q | q | q | q | q | q
      · rw [q]; exact Heap.lt_size hz
      · rw [q]; exact Heap.lt_size hTI
      · rw [q]; exact Heap.lt_size hTO
      · rw [q]; exact h1.lt
      · rw [q]; exact h2.lt
      · rw [q]; exact h3.lt
    rw [upd_ne (Nat.ne_of_lt (Nat.lt_of_lt_of_le hlt hT))]
    exact (hf c hcm).1
  done := by
    intro X hP hw hK hc i pins s σ H E I hf st hg
    subst hP hw hK
    obtain ⟨hz, hTI, ⟨x0, y0, z0, hTO⟩, h1, h2, h3⟩ := st
    obtain ⟨xs, ys, zs, hqx, hqy, hqz, hend⟩ := hg
    obtain ⟨its, rv, p, _⟩ := inv_sqK I hqx
    obtain ⟨its2, rv2, p2, _⟩ := inv_sqK I hqy
    obtain ⟨its3, rv3, p3, _⟩ := inv_sqK I hqz
    have l1 := rv.length
    have l2 := rv2.length
    have l3 := rv3.length
    have D1 := drawsK (prog := X.prog) (w := X.w) (A := X.A.in1) t1 (I.ok.hd hc) i1 a ha its.toArray
    have D2 := drawsK (prog := X.prog) (w := X.w) (A := X.A.in1) t2 (I.ok.hd hc) i2 b hb its2.toArray
    have D3 := drawsK (prog := X.prog) (w := X.w) (A := X.A.in1) t3 (I.ok.hd hc) i3 c hc3 its3.toArray
    have W := GoesN.zip3 (elts := elts) (x1 := kk) (pos := tpos) D D1 D2 D3
    have en : min (min its.toArray.size its2.toArray.size) its3.toArray.size = i := by rw [List.size_toArray, List.size_toArray, List.size_toArray]; omega
    rw [en] at W
    exact W.stops s (fun s1 => Inv X pins σ H s1) E ⟨hz, hTI, ⟨x0, y0, z0, hTO⟩, ⟨h1, p⟩, ⟨h2, p2⟩, ⟨h3, p3⟩⟩ fun h' tk hk htk => I.turnedL (t' := tk) (ch := [z, TO, i1, i2, i3]) hk (fun c hc => hf c (by
        have : c = z ∨ c = TO ∨ c = i1 ∨ c = i2 ∨ c = i3 := by simpa using hc
        rcases this with q | q | q | q | q <;> simp [q]))
  self := fun A i s Q E st h => wpAny_pyIter_zip st.1 h
/-- numbered -/
def Jen (K : PySem.W.Frag) (t1 : Bool) (a : Addr) : L2.It :=
  ⟨fun i H => ∃ (xs : List V) (x : V), SqK K t1 H a xs ∧ xs[i]? = some x,
    fun i H v H' => ∃ T x, v = .ref T ∧ H T = none ∧ H' = upd H T (.tup [.int (i : Nat), x]) ∧ (∀ xs, SqK K t1 H a xs → xs[i]? = some x),
    fun i H => ∃ xs : List V, SqK K t1 H a xs ∧ xs.length = i⟩
theorem turn_en {P : Program} {w : World} {K : PySem.W.Frag} {elts : List Expr} {kk : Nat} {tpos : Pos} {t1 : Bool} {a e it : Addr} (hei : e ≠ it) (hea : e ≠ a) (ha : a ≠ it) :
    Turn P w K (.Tuple elts kk tpos) (Jen K t1 a) [e, it] e (fun i h => (∃ old, IsEnum h e it (0 + (i : Int)) old) ∧ itK t1 h it a i) where
  mem := by simp
  obj := fun i h st d hc => by
    obtain ⟨⟨old, he⟩, h1⟩ := st
    obtain ⟨o1, v1, e1, d1⟩ := h1.obj
    have e' : d = e ∨ d = it := by simpa using hc
    rcases e' with q | q
    · rw [q]; exact ⟨_, he, fun v q => nomatch q⟩
    · rw [q]; exact ⟨o1, e1, fun v q => fields_cell (d1.symm.trans q)⟩
  keep := fun i h h' st k => by
    obtain ⟨⟨old, he⟩, h1⟩ := st
    exact ⟨⟨old, k e (by simp) _ he⟩, h1.at fun o q => k it (by simp) o q⟩
  item := by
    intro X hP hw hK hc i pins s σ H E I hf st hg
    subst hP hw hK
    obtain ⟨⟨old, he⟩, h1⟩ := st
    obtain ⟨xs, x, hqx, hx⟩ := hg
    obtain ⟨its, rv, p, _⟩ := inv_sqK I hqx
    obtain ⟨u, hu, ru⟩ := rv.get hx
    have n1 : i < its.toArray.size := by rw [List.size_toArray]; exact (List.getElem?_eq_some_iff.mp hu).1
    have D1 := drawsK (prog := X.prog) (w := X.w) (A := X.A.in1) t1 (I.ok.hd hc) it a ha its.toArray
    have W := GoesN.enumFrom (elts := elts) (x1 := kk) (pos := tpos) 0 D1 e hei (by simp; exact ⟨hei, hea⟩) (by simp)
    refine W.goes i s (fun v s2 => ∃ x H', Inv X pins σ H' s2 ∧ RelV x v ∧ (Jen X.K t1 a).yld i H x H' ∧ _ ∧ ∀ c ∈ [e, it], H' c = none) E n1 ⟨⟨old, he⟩, ⟨h1, p⟩⟩ fun v h' tk hY st' hk htk => ?_
    obtain ⟨T, t, w1, rfl, hT, e1, hTT⟩ := hY
    have e1' : w1 = u := by
      have : its[i]? = some w1 := by simpa using e1
      rw [hu] at this; cases this; rfl
    subst e1'
    have ez : (0 + (i : Int)) = ((i : Nat) : Int) := by omega
    rw [ez] at hTT
    have new : ObjOk X.prog X.w (upd H T (.tup [.int (i : Nat), x])) h' T (.tup [.int (i : Nat), x]) := ⟨by show 2 ≤ sizeLine; decide, [.int (i : Nat) t, w1], vals_two ⟨_, rfl⟩ ru, hTT⟩
    have I1 : Inv X pins σ (upd H T (.tup [.int (i : Nat), x])) { s with heap := h', toks := tk } :=
      I.turnedNew (t' := tk) (ch := [e, it]) hk (fun c hc => hf c hc) hT new
    obtain ⟨s1, s4⟩ := st'
    refine ⟨.ref T, _, I1, rfl, ⟨T, x, rfl, I.hok.fresh hT, rfl, fun l hl => by rw [sqK_inj I hl hqx]; exact hx⟩, ⟨s1, s4.1⟩, fun c hcm => ?_⟩
    have hlt : c < s.heap.objs.size := by
      have e' : c = e ∨ c = it := by simpa using hcm
      rcases e' with q | q
      · rw [q]; exact Heap.lt_size he
      · rw [q]; exact h1.lt
    rw [upd_ne (Nat.ne_of_lt (Nat.lt_of_lt_of_le hlt hT))]
    exact (hf c hcm).1
  done := by
    intro X hP hw hK hc i pins s σ H E I hf st hg
    subst hP hw hK
    obtain ⟨⟨old, he⟩, h1⟩ := st
    obtain ⟨xs, hqx, hend⟩ := hg
    obtain ⟨its, rv, p, _⟩ := inv_sqK I hqx
    have l1 := rv.length
    have D1 := drawsK (prog := X.prog) (w := X.w) (A := X.A.in1) t1 (I.ok.hd hc) it a ha its.toArray
    have W := GoesN.enumFrom (elts := elts) (x1 := kk) (pos := tpos) 0 D1 e hei (by simp; exact ⟨hei, hea⟩) (by simp)
    have en : its.toArray.size = i := by rw [List.size_toArray]; omega
    rw [en] at W
    exact W.stops s (fun s1 => Inv X pins σ H s1) E ⟨⟨old, he⟩, ⟨h1, p⟩⟩ fun h' tk hk htk => I.turnedL (t' := tk) (ch := [e, it]) hk (fun c hc => hf c hc)
  self := fun A i s Q E st h => by
    obtain ⟨⟨old, he⟩, _⟩ := st
    exact wpAny_pyIter_enum he h

section
variable {X : Cx} {e e2 e3 : Expr} {ta : TA} {p pos tpos : Pos} {elts : List Expr} {kk : Nat}
def iZ2 (K : PySem.W.Frag) (ta : TA) : TI := fun σ H R => ta σ H fun vs H1 => ∃ t1 t2 a b xs ys, vs = [.ref a, .ref b] ∧ SqK K t1 H1 a xs ∧ SqK K t2 H1 b ys ∧ R (Jz2 K t1 t2 a b) H1
theorem pi_z2 (hg : Gl X "zip") (hm : X.mg "zip" = none) (ha : PA X [e, e2] ta)
    (hs : starEach [e, e2] X.env = (false, eval e X.env) :: starEach [e2] X.env) (hpl : (backTo pos (starEach [e2] X.env)).any (·.1) = false) :
    PI X (.Tuple elts kk tpos) (.Call (.Name "zip" p) [e, e2] [] pos) (iZ2 X.K ta) := by
  refine ⟨fun pins s σ H R I h => ?_⟩
  refine Call_ (ld_blt I hg hm PyProof.Rows.boot_zip (PyProof.Rows.callWith_type1 (thn (ha.run pos pins s σ H _ I h) fun us s1 ⟨vs, H1, I1, r1, q1⟩ => ?_) hs hpl))
  obtain ⟨t1, t2, a, b, xs, ys, rfl, hqx, hqy, q⟩ := q1
  obtain ⟨u, us, rfl, r, r1⟩ : ∃ u us', us = u :: us' ∧ RelV (.ref a) u ∧ Vals [.ref b] us' := by
    cases r1 with
    | cons r rr => exact ⟨_, _, rfl, r, rr⟩
  obtain ⟨u2, rfl, r2⟩ : ∃ u2, us = [u2] ∧ RelV (.ref b) u2 := by
    cases r1 with
    | cons r rr => cases rr; exact ⟨_, rfl, r⟩
  cases r; cases r2
  obtain ⟨its, rv, p1, la⟩ := inv_sqK I1 hqx
  have la : @LT.lt Nat _ a s1.heap.objs.size := la
  obtain ⟨its2, rv2, p2, lb⟩ := inv_sqK I1 hqy
  have lb : @LT.lt Nat _ b s1.heap.objs.size := lb
  refine zip_begins2 (beginsK t1 a its.toArray) (beginsK t2 b its2.toArray) p1 p2 fun h' hz hTI hTO h1 h2 hsz hk => wpAny_pyIter_zip hz ?_
  have I2 : Inv X pins σ H1 { s1 with heap := h' } := I1.kept (t' := s1.toks) hk
  have D : ZipSep2 (s1.heap.objs.size + 4) (s1.heap.objs.size + 2) (s1.heap.objs.size + 3) s1.heap.objs.size (s1.heap.objs.size + 1) [s1.heap.objs.size, a] [s1.heap.objs.size + 1, b] := by
    generalize s1.heap.objs.size = n at *
    constructor <;> first | exact List.mem_cons_self | (refine neA ?_; omega) | (refine nin2 ?_ ?_ <;> omega)
  refine ⟨s1.heap.objs.size + 4, [s1.heap.objs.size + 4, s1.heap.objs.size + 2, s1.heap.objs.size + 3, s1.heap.objs.size, s1.heap.objs.size + 1], _, _, H1, rfl, I2, turn_z2 D (Nat.ne_of_lt la) (neA (by omega)), ⟨hz, hTI, ⟨_, _, hTO⟩, itK.new h1, itK.new h2⟩, fun c hcm => ?_, q⟩
  have hle : s1.heap.objs.size ≤ c := by
    have e' : c = s1.heap.objs.size + 4 ∨ c = s1.heap.objs.size + 2 ∨ c = s1.heap.objs.size + 3 ∨ c = s1.heap.objs.size ∨ c = s1.heap.objs.size + 1 := by simpa using hcm
    rcases e' with q | q | q | q | q <;> (rw [q]; first | exact Nat.le_add_right _ _ | exact Nat.le_refl _)
  exact I1.fpOk hle (I1.hok.fresh hle)
def iZ3 (K : PySem.W.Frag) (ta : TA) : TI := fun σ H R => ta σ H fun vs H1 => ∃ t1 t2 t3 a b c xs ys zs, vs = [.ref a, .ref b, .ref c] ∧ SqK K t1 H1 a xs ∧ SqK K t2 H1 b ys ∧ SqK K t3 H1 c zs ∧ R (Jz3 K t1 t2 t3 a b c) H1
theorem pi_z3 (hg : Gl X "zip") (hm : X.mg "zip" = none) (ha : PA X [e, e2, e3] ta)
    (hs : starEach [e, e2, e3] X.env = (false, eval e X.env) :: starEach [e2, e3] X.env) (hpl : (backTo pos (starEach [e2, e3] X.env)).any (·.1) = false) :
    PI X (.Tuple elts kk tpos) (.Call (.Name "zip" p) [e, e2, e3] [] pos) (iZ3 X.K ta) := by
  refine ⟨fun pins s σ H R I h => ?_⟩
  refine Call_ (ld_blt I hg hm PyProof.Rows.boot_zip (PyProof.Rows.callWith_type1 (thn (ha.run pos pins s σ H _ I h) fun us s1 ⟨vs, H1, I1, r1, q1⟩ => ?_) hs hpl))
  obtain ⟨t1, t2, t3, a, b, c, xs, ys, zs, rfl, hqx, hqy, hqz, q⟩ := q1
  obtain ⟨u, us, rfl, r, r1⟩ : ∃ u us', us = u :: us' ∧ RelV (.ref a) u ∧ Vals [.ref b, .ref c] us' := by
    cases r1 with
    | cons r rr => exact ⟨_, _, rfl, r, rr⟩
  obtain ⟨u2, us, rfl, r2, r1⟩ : ∃ u us', us = u :: us' ∧ RelV (.ref b) u ∧ Vals [.ref c] us' := by
    cases r1 with
    | cons r rr => exact ⟨_, _, rfl, r, rr⟩
  obtain ⟨u3, rfl, r3⟩ : ∃ u2, us = [u2] ∧ RelV (.ref c) u2 := by
    cases r1 with
    | cons r rr => cases rr; exact ⟨_, rfl, r⟩
  cases r; cases r2; cases r3
  obtain ⟨its, rv, p1, la⟩ := inv_sqK I1 hqx
  have la : @LT.lt Nat _ a s1.heap.objs.size := la
  obtain ⟨its2, rv2, p2, lb⟩ := inv_sqK I1 hqy
  have lb : @LT.lt Nat _ b s1.heap.objs.size := lb
  obtain ⟨its3, rv3, p3, lc⟩ := inv_sqK I1 hqz
  have lc : @LT.lt Nat _ c s1.heap.objs.size := lc
  refine zip_begins3 (beginsK t1 a its.toArray) (beginsK t2 b its2.toArray) (beginsK t3 c its3.toArray) p1 p2 p3 fun h' hz hTI hTO h1 h2 h3 hsz hk => wpAny_pyIter_zip hz ?_
  have I2 : Inv X pins σ H1 { s1 with heap := h' } := I1.kept (t' := s1.toks) hk
  have D : ZipSep3 (s1.heap.objs.size + 5) (s1.heap.objs.size + 3) (s1.heap.objs.size + 4) s1.heap.objs.size (s1.heap.objs.size + 1) (s1.heap.objs.size + 2) [s1.heap.objs.size, a] [s1.heap.objs.size + 1, b] [s1.heap.objs.size + 2, c] := by
    generalize s1.heap.objs.size = n at *
    constructor <;> first | exact List.mem_cons_self | (refine neA ?_; omega) | (refine nin2 ?_ ?_ <;> omega)
  refine ⟨s1.heap.objs.size + 5, [s1.heap.objs.size + 5, s1.heap.objs.size + 3, s1.heap.objs.size + 4, s1.heap.objs.size, s1.heap.objs.size + 1, s1.heap.objs.size + 2], _, _, H1, rfl, I2, turn_z3 D (Nat.ne_of_lt la) (neA (by omega)) (neA (by omega)), ⟨hz, hTI, ⟨_, _, _, hTO⟩, itK.new h1, itK.new h2, itK.new h3⟩, fun c hcm => ?_, q⟩
  have hle : s1.heap.objs.size ≤ c := by
    have e' : c = s1.heap.objs.size + 5 ∨ c = s1.heap.objs.size + 3 ∨ c = s1.heap.objs.size + 4 ∨ c = s1.heap.objs.size ∨ c = s1.heap.objs.size + 1 ∨ c = s1.heap.objs.size + 2 := by simpa using hcm
    rcases e' with q | q | q | q | q | q <;> (rw [q]; first | exact Nat.le_add_right _ _ | exact Nat.le_refl _)
  exact I1.fpOk hle (I1.hok.fresh hle)
end
open PySem in
set_option maxHeartbeats 1000000 in
theorem meets_enumerate_new0 {v : Value} {o : Obj} {H : Heap → Prop} (B : Begins v o H) :
    Meets (Builtin.«enumerate.__new__» ⟨[.type "enumerate", v], []⟩) (fun _ R s => H s.heap ∧
      R (.ok (.ret (.ref (s.heap.push o).objs.size))) { s with heap := (s.heap.push o).push { cls := .type "enumerate", data := .fields #[.none, .bool false, .ref s.heap.objs.size, rawInt 0, .none, .none] } }) :=
  .of_wp fun prog w A R s h => by
    obtain ⟨hp, g, d, tk, os⟩ := s; obtain ⟨h1, h⟩ := h
    have hsub := sub_enumerate
    have q1 : ∀ {A' : Around} {E : Value → Shared → Prop} {Q : Value → Shared → Prop}, Q (.ref hp.objs.size) ⟨hp.push o, g, d, tk, os⟩ → wpAny (model prog w) A' (pyIter v) Q E ⟨hp, g, d, tk, os⟩ :=
      fun q => B.iter prog w _ _ ⟨hp, g, d, tk, os⟩ _ h1 q
    wp_walk using q1
    refine wpAny_stack_any fun st => wpAny_pure ?_
    split
    · rename_i c _ _ _ _ _
      cases (c == Value.type "enumerate")
      · wp_walk using q1
        exact ⟨_, rfl, h⟩
      · wp_walk using q1
        exact ⟨_, rfl, h⟩
    · wp_walk using q1
      exact ⟨_, rfl, h⟩
theorem enum_begins0 {prog : Program} {w : World} {A : Around} {E : Value → Shared → Prop} {s : Shared} {v : Value} {o : Obj} {H : Heap → Prop} {Q : Value → Shared → Prop} (B : Begins v o H) (h1 : H s.heap)
    (h : ∀ h', IsEnum h' (s.heap.objs.size + 1) s.heap.objs.size 0 .none → h'.get? s.heap.objs.size = some o → h'.objs.size = s.heap.objs.size + 2 →
      (∀ b o, s.heap.get? b = some o → h'.get? b = some o) → Q (.ref (s.heap.objs.size + 1)) { s with heap := h' }) :
    wpAny (model prog w) A (call (.type "enumerate") [v]) Q E s := by
  refine callType_new F.called_enumerate (by decide) (F.typeCall_enumerate_1 _) (F.newCall_enumerate_1 _) (fun obj => F.args_object_init_2 obj _) F.entry_enumerate_new
    (meets_enumerate_new0 B) ⟨h1, ?_⟩
  have hz : (s.heap.push o).objs.size = s.heap.objs.size + 1 := Heap.size_push ..
  show _ ∧ _
  rw [hz]
  have he : IsEnum ((s.heap.push o).push { cls := .type "enumerate", data := .fields #[.none, .bool false, .ref s.heap.objs.size, rawInt 0, .none, .none] }) (s.heap.objs.size + 1) s.heap.objs.size 0 .none := by
    have := Heap.get?_push_size (s.heap.push o) (o := { cls := .type "enumerate", data := .fields #[.none, .bool false, .ref s.heap.objs.size, rawInt 0, .none, .none] }) rfl
    rw [hz] at this; exact this
  refine ⟨⟨_, he, rfl⟩, h _ he (Heap.get?_push_of_some _ (Heap.get?_push_size _ B.free)) (by rw [Heap.size_push, hz]) fun b o x => Heap.get?_push_of_some _ (Heap.get?_push_of_some _ x)⟩
section
variable {X : Cx} {e : Expr} {ta : TA} {p pos tpos : Pos} {elts : List Expr} {kk : Nat}
def iEn (K : PySem.W.Frag) (ta : TA) : TI := fun σ H R => ta σ H fun vs H1 => ∃ t1 a xs, vs = [.ref a] ∧ SqK K t1 H1 a xs ∧ R (Jen K t1 a) H1
theorem pi_en (hg : Gl X "enumerate") (hm : X.mg "enumerate" = none) (ha : PA X [e] ta) (hs : starEach [e] X.env = [(false, eval e X.env)]) :
    PI X (.Tuple elts kk tpos) (.Call (.Name "enumerate" p) [e] [] pos) (iEn X.K ta) := by
  refine ⟨fun pins s σ H R I h => ?_⟩
  refine Call_ (ld_blt I hg hm boot_enumerate (PyProof.Rows.callWith_type1 (thn (ha.run pos pins s σ H _ I h) fun us s1 ⟨vs, H1, I1, r1, q1⟩ => ?_) hs rfl))
  obtain ⟨t1, a, xs, rfl, hqx, q⟩ := q1
  obtain ⟨u2, rfl, r2⟩ : ∃ u2, us = [u2] ∧ RelV (.ref a) u2 := by
    cases r1 with
    | cons r rr => cases rr; exact ⟨_, rfl, r⟩
  cases r2
  obtain ⟨its, rv, p1, la⟩ := inv_sqK I1 hqx
  have la : @LT.lt Nat _ a s1.heap.objs.size := la
  refine enum_begins0 (beginsK t1 a its.toArray) p1 fun h' he h1 hsz hk => wpAny_pyIter_enum he ?_
  have I2 : Inv X pins σ H1 { s1 with heap := h' } := I1.kept (t' := s1.toks) hk
  refine ⟨s1.heap.objs.size + 1, [s1.heap.objs.size + 1, s1.heap.objs.size], _, _, H1, rfl, I2, turn_en (Nat.succ_ne_self _) (neA (by omega)) (neA (by omega)), ⟨⟨_, he⟩, itK.new h1⟩, fun c hcm => ?_, q⟩
  have hle : s1.heap.objs.size ≤ c := by
    have e' : c = s1.heap.objs.size + 1 ∨ c = s1.heap.objs.size := by simpa using hcm
    rcases e' with q | q <;> (rw [q]; first | exact Nat.le_add_right _ _ | exact Nat.le_refl _)
  exact I1.fpOk hle (I1.hok.fresh hle)
end
end M

set_option Elab.async false
set_option maxRecDepth 100000
set_option maxHeartbeats 8000000
/-! MY: zip over any number of lists and tuples to one name. -/
namespace M
open PySem L2
open PyProof.Rows hiding St
/-- a zip, with or without a tuple that it gave out -/
def ZOut (h : Heap) (z TI TO : Addr) : Prop := ∃ (v0 : Value) (f : Bool), (v0 = .none ∨ ∃ T : Addr, v0 = rawInt T) ∧ h.get? z = some { cls := .type "zip", dict := none, data := .fields #[v0, .bool f, .bool false, .ref TI, .ref TO], slots := #[] }
abbrev IsTupV (h : Heap) (T : Addr) (vs : Array Value) : Prop := h.get? T = some { cls := .type "tuple", data := .seq vs }
/-- one of the sources -/
structure One where
  t : Bool
  a : Nat
  xs : Array Value
def stOne (h : Heap) (I : Nat) (o : One) (i : Nat) : Prop := itK o.t h I o.a i ∧ hsK o.t h o.a o.xs
section
variable {prog : Program} {w : World} {A : Around} {E : Value → Shared → Prop} {s : Shared}
theorem stOne.at {h h' : Heap} {I : Nat} {o : One} {i : Nat} (x : stOne h I o i) (k : ∀ (b : Nat), b = I ∨ b = o.a → ∀ q, h.get? b = some q → h'.get? b = some q) : stOne h' I o i := by
  refine ⟨x.1.at fun q => k I (.inl rfl) q, ?_⟩
  have k2 := k o.a (.inr rfl)
  have x2 := x.2
  cases e : o.t
  · rw [e] at x2; obtain ⟨q, h1, h2⟩ := x2; exact ⟨q, k2 _ h1, h2⟩
  · rw [e] at x2; obtain ⟨q, h1, h2⟩ := x2; exact ⟨q, k2 _ h1, h2⟩
theorem forIn_inv {α β : Type} {l : List α} {f : α → β → Sem (ForInStep β)} {Q : β → Shared → Prop} (P : Nat → β → Shared → Prop)
    (step : ∀ k x b s, l[k]? = some x → P k b s → wpAny (model prog w) A (f x b) (fun r s' => ∃ b', r = .yield b' ∧ P (k + 1) b' s') E s) :
    ∀ (m : List α) (k : Nat) (b : β) (s : Shared), l = l.take k ++ m → P k b s → k + m.length = l.length → (∀ b s, P l.length b s → Q b s) → wpAny (model prog w) A (forIn m b f) Q E s
  | [], k, b, s, _, h, hk, hend => by
    rw [List.forIn_nil]
    exact wpAny_pure (hend _ _ (by rw [← hk]; simpa using h))
  | x :: m, k, b, s, hl, h, hk, hend => by
    rw [List.forIn_cons]
    have hlen : (l.take k).length = k := by rw [List.length_take]; simp at hk; omega
    have hx : l[k]? = some x := by rw [hl, List.getElem?_append_right (by omega), hlen]; simp
    refine wpAny_bind ?_
    refine thn (step k x b s hx h) fun r s' ⟨b', e, h'⟩ => ?_
    subst e
    refine forIn_inv P step m (k + 1) b' s' ?_ h' (by simp at hk ⊢; omega) hend
    rw [List.take_add_one, hx, List.append_assoc]; exact hl
theorem forIn_all {α β : Type} {l : List α} {f : α → β → Sem (ForInStep β)} {Q : β → Shared → Prop} {b : β} (P : Nat → β → Shared → Prop) (h0 : P 0 b s)
    (step : ∀ k x b s, l[k]? = some x → P k b s → wpAny (model prog w) A (f x b) (fun r s' => ∃ b', r = .yield b' ∧ P (k + 1) b' s') E s) (hend : ∀ b s, P l.length b s → Q b s) : wpAny (model prog w) A (forIn l b f) Q E s :=
  forIn_inv P step l 0 b s (by simp) h0 (by simp) hend
/-- is the tuple free? -/
theorem zFree {z TI TO : Addr} {Q : Bool → Shared → Prop} (hz : ZOut s.heap z TI TO) (h1 : Q true s) (h2 : ∀ h', ZOut h' z TI TO → Heap.SameBut z s.heap h' → Q false { s with heap := h' }) :
    wpAny (model prog w) A (Builtin.SmallTypes.ownedTupleIsFree (.ref z)) Q E s := by
  obtain ⟨v0, f, hv, hz⟩ := hz
  unfold Builtin.SmallTypes.ownedTupleIsFree
  refine wpAny_bind (wpAny_field hz rfl (x := v0) rfl ?_)
  rcases hv with rfl | ⟨T, rfl⟩
  · exact wpAny_pure h1
  have alive : ∀ {R : Option Obj → Shared → Prop}, R (s.heap.get? T) s → wpAny (model prog w) A (loadIfAlive T) R E s := fun h => fun _ _ _ => h
  show wpAny _ _ (loadIfAlive ((T : Int).toNat) >>= _) _ _ _
  rw [Int.toNat_natCast]
  refine wpAny_bind (alive ?_)
  cases s.heap.get? T with
  | none => exact wpAny_pure h1
  | some o =>
    simp only [Option.isNone_some, Bool.false_eq_true, if_false]
    refine wpAny_bind (wpAny_field hz rfl (x := .bool f) rfl ?_)
    cases f with
    | true =>
      rw [if_neg (show ¬ ((Value.bool true != Value.bool true) = true) from Bool.false_ne_true)]
      exact wpAny_pure (h2 s.heap ⟨_, _, .inr ⟨T, rfl⟩, hz⟩ (Heap.SameBut.refl _ _))
    | false =>
      rw [if_pos (show (Value.bool false != Value.bool true) = true from rfl)]
      exact wpAny_bind (wpAny_setField_rec hz (by simp) fun h3 hz3 hs3 => wpAny_pure (h2 h3 ⟨_, _, .inr ⟨T, rfl⟩, hz3⟩ hs3))

def itemV (i : Nat) (o : One) : Value := o.xs.toList.getD i .none
def itsN (N n : Nat) : List Value := (List.range n).map fun j => Value.ref (N + j)
/-- a zip of n at N: the n iterators, the tuple of them, the tuple kept, the zip -/
structure ZN (h : Heap) (N : Nat) (os : List One) (i : Nat) : Prop where
  z : ZOut h (N + os.length + 2) (N + os.length) (N + os.length + 1)
  TI : IsTupV h (N + os.length) (itsN N os.length).toArray
  TO : ∃ vs : Array Value, vs.size = os.length ∧ IsTupV h (N + os.length + 1) vs
  st : ∀ (j : Nat) (o : One), os[j]? = some o → stOne h (N + j) o i
/-- cells that a turn writes -/
def chN (N : Nat) (os : List One) : List Addr := (N + os.length + 2) :: (N + os.length + 1) :: (List.range os.length).map (N + ·)
theorem zdraw {I i : Nat} {o : One} {R : Value → Shared → Prop} (hh : A.handled = none) (hne : o.a ≠ I) (hi : i < o.xs.size) (st : stOne s.heap I o i)
    (h : ∀ h' tk, stOne h' I o (i + 1) → Heap.SameBut I s.heap h' → R (itemV i o) { s with heap := h', toks := tk }) : wpAny (model prog w) A (Builtin.SmallTypes.nextOf (.ref I)) R E s :=
  (drawsK o.t hh I o.a hne o.xs).item i s R E hi st fun x h' tk hx st' hs => by
    have e : x = itemV i o := by
      unfold itemV
      rw [List.getD_eq_getElem?_getD, Array.getElem?_toList, hx]; rfl
    subst e
    exact h h' tk st' hs
theorem zdone {I i : Nat} {o : One} {R : Value → Shared → Prop} (hh : A.handled = none) (hne : o.a ≠ I) (hi : i = o.xs.size) (st : stOne s.heap I o i)
    (h : ∀ h' e, Heap.ExtBut I s.heap h' → (∃ o, h'.get? e = some o ∧ o.cls = .type "StopIteration") → E (.ref e) { s with heap := h' }) : wpAny (model prog w) A (Builtin.SmallTypes.nextOf (.ref I)) R E s :=
  (drawsK o.t hh I o.a hne o.xs).done s R E (by rw [← hi]; exact st) h
/-- within a turn: k sources have been asked -/
structure LP (s0 : Heap) (oz : Obj) (N : Nat) (os : List One) (i k : Nat) (free : Bool) (h : Heap) : Prop where
  st : ∀ (j : Nat) (o : One), os[j]? = some o → stOne h (N + j) o (if j < k then i + 1 else i)
  TI : IsTupV h (N + os.length) (itsN N os.length).toArray
  z : h.get? (N + os.length + 2) = some oz
  TO : ∃ vs : Array Value, vs.size = os.length ∧ IsTupV h (N + os.length + 1) vs ∧ (free = true → ∀ (j : Nat) (o : One), j < k → os[j]? = some o → vs[j]? = some (itemV i o))
  keep : ∀ c q, c ∉ chN N os → s0.get? c = some q → h.get? c = some q
  size : h.objs.size = s0.objs.size
theorem lt_get {os : List One} {k : Nat} {o : One} (h : os[k]? = some o) : k < os.length := (List.getElem?_eq_some_iff.mp h).1
theorem LP.next {s0 : Heap} {oz : Obj} {N : Nat} {os : List One} {i k : Nat} {free : Bool} {h h' : Heap} {o : One} (L : LP s0 oz N os i k free h) (hlt : ∀ o ∈ os, o.a < N) (ho : os[k]? = some o) (st' : stOne h' (N + k) o (i + 1)) (hs : Heap.SameBut (N + k) h h') :
    (∀ (j : Nat) (o : One), os[j]? = some o → stOne h' (N + j) o (if j < k + 1 then i + 1 else i)) ∧ IsTupV h' (N + os.length) (itsN N os.length).toArray ∧ h'.get? (N + os.length + 2) = some oz ∧
      (∃ vs : Array Value, vs.size = os.length ∧ IsTupV h' (N + os.length + 1) vs ∧ (free = true → ∀ (j : Nat) (o : One), j < k → os[j]? = some o → vs[j]? = some (itemV i o))) ∧ (∀ c q, c ∉ chN N os → s0.get? c = some q → h'.get? c = some q) ∧ h'.objs.size = s0.objs.size := by
  have hk := lt_get ho
  have up : ∀ (b : Nat) (q : Obj), ¬ (b = N + k) → h.get? b = some q → h'.get? b = some q := fun b q hb e => by rw [hs.2 b hb]; exact e
  refine ⟨fun j p hp => ?_, up _ _ (by omega) L.TI, up _ _ (by omega) L.z, ?_, fun c q hc e => up c q ?_ (L.keep c q hc e), by rw [hs.1, L.size]⟩
  · by_cases e : j = k
    · subst e
      rw [ho] at hp; cases hp
      have c : j < j + 1 := by omega
      rw [if_pos c]; exact st'
    · have := L.st j p hp
      have hj : (if j < k + 1 then i + 1 else i) = if j < k then i + 1 else i := by
        by_cases c : j < k
        · have c2 : j < k + 1 := by omega
          rw [if_pos c, if_pos c2]
        · have c2 : ¬ (j < k + 1) := by omega
          rw [if_neg c, if_neg c2]
      rw [hj]
      have hpa := hlt p (List.mem_of_getElem? hp)
      refine this.at fun b hb q e3 => up b q ?_ e3
      rcases hb with rfl | rfl
      · omega
      · omega
  · obtain ⟨vs, h1, h2, h3⟩ := L.TO
    exact ⟨vs, h1, up _ _ (by omega) h2, h3⟩
  · intro e
    exact hc (by rw [e]; unfold chN; simp; omega)
theorem LP.write {s0 : Heap} {oz : Obj} {N : Nat} {os : List One} {i k : Nat} {h h' h2 : Heap} {o : One} {vs : Array Value} (L : LP s0 oz N os i k true h) (hlt : ∀ o ∈ os, o.a < N) (ho : os[k]? = some o) (st' : stOne h' (N + k) o (i + 1)) (hs : Heap.SameBut (N + k) h h')
    (hvs : vs.size = os.length) (hv : ∀ (j : Nat) (o : One), j < k → os[j]? = some o → vs[j]? = some (itemV i o)) (hT : IsTupV h2 (N + os.length + 1) (vs.setIfInBounds k (itemV i o))) (hs2 : Heap.SameBut (N + os.length + 1) h' h2) : LP s0 oz N os i (k + 1) true h2 := by
  have hk := lt_get ho
  obtain ⟨a1, a2, a3, _, a5, a6⟩ := L.next hlt ho st' hs
  have up : ∀ (b : Nat) (q : Obj), ¬ (b = N + os.length + 1) → h'.get? b = some q → h2.get? b = some q := fun b q hb e => by rw [hs2.2 b hb]; exact e
  refine ⟨fun j p hp => ?_, up _ _ (by omega) a2, up _ _ (by omega) a3, ⟨_, by simpa using hvs, hT, fun _ j p hj hp => ?_⟩, fun c q hc e => up c q ?_ (a5 c q hc e), by rw [hs2.1, a6]⟩
  · have hpa := hlt p (List.mem_of_getElem? hp)
    have hpj := lt_get hp
    refine (a1 j p hp).at fun b hb q e => up b q ?_ e
    rcases hb with rfl | rfl
    · omega
    · omega
  · by_cases e : j = k
    · subst e
      rw [ho] at hp; cases hp
      rw [Array.getElem?_setIfInBounds_self_of_lt (by omega)]
    · rw [Array.getElem?_setIfInBounds_ne (by omega)]
      exact hv j p (by omega) hp
  · intro e
    exact hc (by rw [e]; unfold chN; simp)
theorem szN {n : Nat} (h : n ≤ 1000) : n ≤ sizeLine := Nat.le_trans h (by decide)
theorem szN1 {n : Nat} (h : n ≤ 1000) : n ≤ sizeLine + 1 := Nat.le_succ_of_le (szN h)
theorem zn_item {N : Nat} {os : List One} {i : Nat} {Q : Value → Shared → Prop} (hh : A.handled = none) (h0 : 0 < os.length) (hsmall : os.length ≤ 100) (hlt : ∀ o ∈ os, o.a < N) (hs : ZN s.heap N os i) (hi : ∀ o ∈ os, i < o.xs.size)
    (hQ : ∀ h' tk, ZN h' N os (i + 1) → IsTupV h' s.heap.objs.size (os.map (itemV i)).toArray → (∀ c q, c ∉ chN N os → s.heap.get? c = some q → h'.get? c = some q) → Q (.ref s.heap.objs.size) { s with heap := h', toks := tk }) :
    wpAny (model prog w) A (Builtin.«zip.__next__» ⟨[.ref (N + os.length + 2)], []⟩) (fun fin s' => ∃ v, fin = .done (.ret v) ∧ Q v s') E s := by
  obtain ⟨v0, f, hv, hz⟩ := id hs.z
  obtain ⟨vs, hvs, hTO⟩ := hs.TO
  have hTI := hs.TI
  have hzl : N + os.length + 2 < s.heap.objs.size := Heap.lt_size hz
  have mz : ∀ (c : Nat), c ∉ chN N os → ¬ (c = N + os.length + 2) := fun c hc e => hc (by rw [e]; unfold chN; simp)
  have its : ∀ {k : Nat} {x : Value}, (itsN N os.length)[k]? = some x → ∃ o, os[k]? = some o ∧ x = .ref (N + k) := fun {k x} e => by
    unfold itsN at e
    rw [List.getElem?_map, Option.map_eq_some_iff] at e
    obtain ⟨j, hj, rfl⟩ := e
    have hk : k < os.length := by
      have := (List.getElem?_eq_some_iff.mp hj).1
      simpa using this
    rw [List.getElem?_range hk] at hj; cases hj
    exact ⟨os[k], List.getElem?_eq_getElem hk, rfl⟩
  have ln : (itsN N os.length).length = os.length := by unfold itsN; simp
  show wpAny _ _ (field (.ref _) 2 >>= _) _ _ _
  refine wpAny_bind (wpAny_field hz rfl (x := .bool false) rfl ?_)
  show wpAny _ _ (field (.ref _) 3 >>= _) _ _ _
  refine wpAny_bind (wpAny_field hz rfl (x := .ref (N + os.length)) rfl ?_)
  refine wpAny_bind (wpAny_seqItems hTI rfl ?_)
  have ne : (itsN N os.length).toArray.isEmpty = false := by
    have : (itsN N os.length).toArray.size ≠ 0 := by rw [List.size_toArray, ln]; omega
    simp only [Array.isEmpty, decide_eq_false_iff_not]; exact this
  simp only [ne, Bool.false_eq_true, if_false]
  refine wpAny_bind (zFree hs.z ?_ fun h1 hz1 hs1 => ?_)
  · simp only [if_true]
    refine wpAny_bind (wpAny_rule ?_)
    refine wpAny_bind (wpAny_field hz rfl (x := .ref (N + os.length + 1)) rfl ?_)
    refine wpAny_bind (wpAny_setField_rec hz (by simp) fun g0 hz0 hs0 => ?_)
    have up0 : ∀ (b : Nat) (q : Obj), ¬ (b = N + os.length + 2) → s.heap.get? b = some q → g0.get? b = some q := fun b q hb e => by rw [hs0.2 b hb]; exact e
    refine wpAny_bind (forIn_all (fun k b s' => b = (none, ()) ∧ ∃ g tk, s' = { s with heap := g, toks := tk } ∧ LP s.heap { cls := .type "zip", dict := none, data := .fields #[.ellipsis, .bool f, .bool false, .ref (N + os.length), .ref (N + os.length + 1)], slots := #[] } N os i k true g) ⟨rfl, g0, s.toks, rfl, ⟨fun j o ho => ?_, up0 _ _ (by omega) hTI, hz0, ⟨vs, hvs, up0 _ _ (by omega) hTO, fun _ j o hj => absurd hj (by omega)⟩, fun c q hc e => up0 c q (mz c hc) e, hs0.1⟩⟩ ?_ ?_)
    · have hpa := hlt o (List.mem_of_getElem? ho)
      have hpj := lt_get ho
      have c0 : ¬ (j < 0) := by omega
      rw [if_neg c0]
      refine (hs.st j o ho).at fun b hb q e3 => up0 b q ?_ e3
      rcases hb with rfl | rfl
      · omega
      · omega
    · rintro k ⟨x, k'⟩ b s' hx ⟨rfl, g, tk, rfl, L⟩
      obtain ⟨hx1, rfl⟩ : (itsN N os.length)[k]? = some x ∧ k' = k := by
        rw [List.getElem?_zipIdx, Option.map_eq_some_iff] at hx
        obtain ⟨y, h1, h2⟩ := hx
        simp at h2
        exact ⟨by rw [h1, h2.1], h2.2.symm⟩
      obtain ⟨o, ho, rfl⟩ := its hx1
      have hk := lt_get ho
      have hoa := hlt o (List.mem_of_getElem? ho)
      have st := L.st k' o ho
      have ck : ¬ (k' < k') := by omega
      rw [if_neg ck] at st
      refine wpAny_bind (wpAny_onRaise ?_)
      show wpAny _ _ (Builtin.SmallTypes.nextOf (.ref (N + k')) >>= _) _ _ _
      refine wpAny_bind (zdraw hh (neA (by omega)) (hi o (List.mem_of_getElem? ho)) st fun h2 tk2 st2 hs2 => wpAny_pure ?_)
      obtain ⟨a1, a2, a3, ⟨us, u1, u2, u3⟩, a5, a6⟩ := L.next hlt ho st2 hs2
      refine wpAny_bind (wpAny_seqItems u2 rfl ?_)
      refine wpAny_bind (wpAny_updateSeq (xs := us) (hz := szN (by omega)) (_hz' := szN1 (by rw [Array.size_setIfInBounds]; omega)) u2 rfl ?_)
      refine wpAny_bind (wpAny_letGo (wpAny_pure ⟨_, rfl, rfl, _, _, rfl, L.write hlt ho st2 hs2 u1 (u3 rfl) ?_ (Heap.SameBut.update ..)⟩))
      refine (Heap.get?_update_self _ u2 rfl).trans ?_
      simp [Obj.mapSeq]
    · rintro b s' ⟨rfl, g, tk, rfl, L⟩
      rw [List.length_zipIdx, ln] at L
      obtain ⟨us, u1, u2, u3⟩ := L.TO
      refine wpAny_bind (wpAny_seqItems u2 rfl ?_)
      have eu : us = (os.map (itemV i)).toArray := by
        apply Array.ext'
        apply List.ext_getElem?
        intro j
        rw [Array.getElem?_toList]
        by_cases c : j < os.length
        · rw [u3 rfl j os[j] c (List.getElem?_eq_getElem c)]
          simp [List.getElem?_map, List.getElem?_eq_getElem c]
        · rw [Array.getElem?_eq_none (by omega), List.getElem?_eq_none (by simpa using c)]
      subst eu
      refine wpAny_bind (wpAny_newTuple ?_ (szN (by simp; omega)))
      show wpAny _ _ (Builtin.SmallTypes.ownedTupleHandOut (.ref _) (.ref g.objs.size) >>= _) _ _ ⟨g.push { cls := .type "tuple", data := .seq (os.map (itemV i)).toArray }, s.gens, s.drawn, tk, s.os⟩
      refine wpAny_bind ?_
      unfold Builtin.SmallTypes.ownedTupleHandOut
      have hz6 := Heap.get?_push_of_some { cls := .type "tuple", data := .seq (os.map (itemV i)).toArray } L.z
      refine wpAny_bind (wpAny_setField_rec hz6 (by simp) fun h7 hz7 hs7 => ?_)
      refine wpAny_setField_rec hz7 (by simp) fun h8 hz8 hs8 => ?_
      have hgs : g.objs.size = s.heap.objs.size := L.size
      have up : ∀ (b : Nat) (q : Obj), ¬ (b = N + os.length + 2) → (g.push { cls := .type "tuple", data := .seq (os.map (itemV i)).toArray }).get? b = some q → h8.get? b = some q := fun b q hb e => by rw [hs8.2 b hb, hs7.2 b hb]; exact e
      have up2 : ∀ (b : Nat) (q : Obj), ¬ (b = N + os.length + 2) → g.get? b = some q → h8.get? b = some q := fun b q hb e => up b q hb (Heap.get?_push_of_some _ e)
      refine wpAny_pure ⟨_, rfl, ?_⟩
      rw [hgs]
      refine hQ h8 tk ⟨⟨_, _, .inr ⟨g.objs.size, rfl⟩, hz8⟩, up2 _ _ (by omega) L.TI, ⟨_, by simp, up2 _ _ (by omega) u2⟩, fun j o ho => ?_⟩ ?_ fun c q hc e => up2 c q (mz c hc) (L.keep c q hc e)
      · have hpa := hlt o (List.mem_of_getElem? ho)
        have hpj := lt_get ho
        have st := L.st j o ho
        rw [if_pos hpj] at st
        refine st.at fun b hb q e3 => up2 b q ?_ e3
        rcases hb with rfl | rfl
        · omega
        · omega
      · rw [← hgs]
        exact up _ _ (by omega) (Heap.get?_push_size _ rfl)
  · simp only [Bool.false_eq_true, if_false]
    have up0 : ∀ (b : Nat) (q : Obj), ¬ (b = N + os.length + 2) → s.heap.get? b = some q → h1.get? b = some q := fun b q hb e => by rw [hs1.2 b hb]; exact e
    obtain ⟨v1, f1, hv1, hz1'⟩ := id hz1
    rw [← Array.forIn_toList]
    refine wpAny_bind (forIn_all (l := itsN N os.length) (fun k b s' => b.1 = none ∧ b.2.toList = (os.take k).map (itemV i) ∧ ∃ g tk, s' = { s with heap := g, toks := tk } ∧ LP s.heap { cls := .type "zip", dict := none, data := .fields #[v1, .bool f1, .bool false, .ref (N + os.length), .ref (N + os.length + 1)], slots := #[] } N os i k false g) ⟨rfl, rfl, h1, s.toks, rfl, ⟨fun j o ho => ?_, up0 _ _ (by omega) hTI, hz1', ⟨vs, hvs, up0 _ _ (by omega) hTO, fun e => by cases e⟩, fun c q hc e => up0 c q (mz c hc) e, hs1.1⟩⟩ ?_ ?_)
    · have hpa := hlt o (List.mem_of_getElem? ho)
      have hpj := lt_get ho
      have c0 : ¬ (j < 0) := by omega
      rw [if_neg c0]
      refine (hs.st j o ho).at fun b hb q e3 => up0 b q ?_ e3
      rcases hb with rfl | rfl
      · omega
      · omega
    · rintro k x ⟨b1, b2⟩ s' hx ⟨hb1, hb2, g, tk, rfl, L⟩
      obtain ⟨o, ho, rfl⟩ := its hx
      have hk := lt_get ho
      have hoa := hlt o (List.mem_of_getElem? ho)
      have st := L.st k o ho
      have ck : ¬ (k < k) := by omega
      rw [if_neg ck] at st
      refine wpAny_bind (wpAny_holding ?_)
      show wpAny _ _ (Builtin.SmallTypes.nextOf (.ref (N + k)) >>= _) _ _ _
      refine wpAny_bind (zdraw hh (neA (by omega)) (hi o (List.mem_of_getElem? ho)) st fun h2 tk2 st2 hs2 => wpAny_pure ?_)
      obtain ⟨a1, a2, a3, ⟨us, u1, u2, u3⟩, a5, a6⟩ := L.next hlt ho st2 hs2
      refine wpAny_pure ⟨_, rfl, rfl, ?_, _, _, rfl, ⟨a1, a2, a3, ⟨us, u1, u2, fun e => by cases e⟩, a5, a6⟩⟩
      have hb2 : b2.toList = (os.take k).map (itemV i) := hb2
      show (b2.push (itemV i o)).toList = _
      rw [Array.toList_push, hb2, List.take_add_one, ho]; simp
    · rintro ⟨b1, b2⟩ s' ⟨hb1, hb2, g, tk, rfl, L⟩
      have hb1 : b1 = none := hb1
      have hb3 : b2.toList = os.map (itemV i) := by
        have q : b2.toList = (os.take (itsN N os.length).length).map (itemV i) := hb2
        rw [q, ln, List.take_of_length_le (Nat.le_refl _)]
      rw [ln] at L
      subst hb1
      have hgs : g.objs.size = s.heap.objs.size := L.size
      show wpAny _ _ (newTuple b2.toList >>= _) _ _ _
      rw [hb3]
      refine wpAny_bind (wpAny_newTuple ?_ (szN (by simp; omega)))
      obtain ⟨us, u1, u2, u3⟩ := L.TO
      have up2 : ∀ (b : Nat) (q : Obj), g.get? b = some q → (g.push { cls := .type "tuple", data := .seq (os.map (itemV i)).toArray }).get? b = some q := fun b q e => Heap.get?_push_of_some _ e
      refine wpAny_pure ⟨_, rfl, ?_⟩
      show Q (.ref g.objs.size) _
      rw [hgs]
      refine hQ (g.push { cls := .type "tuple", data := .seq (os.map (itemV i)).toArray }) tk ⟨⟨_, _, hv1, up2 _ _ L.z⟩, up2 _ _ L.TI, ⟨us, u1, up2 _ _ u2⟩, fun j o ho => ?_⟩ ?_ fun c q hc e => up2 c q (L.keep c q hc e)
      · have st := L.st j o ho
        rw [if_pos (lt_get ho)] at st
        exact st.at fun b hb q e3 => up2 b q e3
      · rw [← hgs]
        exact Heap.get?_push_size _ rfl
theorem zn_end {N : Nat} {os : List One} {i : Nat} {Q : Fin → Shared → Prop} (hh : A.handled = none) (h0 : 0 < os.length) (hsmall : os.length ≤ 100) (hlt : ∀ o ∈ os, o.a < N) (hs : ZN s.heap N os i) (hi : ∀ o ∈ os, i ≤ o.xs.size) (hend : ∃ o ∈ os, i = o.xs.size)
    (hE : ∀ h' tk e, (∀ c q, c ∉ chN N os → s.heap.get? c = some q → h'.get? c = some q) → (∃ o, h'.get? e = some o ∧ o.cls = .type "StopIteration") → E (.ref e) { s with heap := h', toks := tk }) :
    wpAny (model prog w) A (Builtin.«zip.__next__» ⟨[.ref (N + os.length + 2)], []⟩) Q E s := by
  obtain ⟨v0, f, hv, hz⟩ := id hs.z
  obtain ⟨vs, hvs, hTO⟩ := hs.TO
  have hTI := hs.TI
  have hzl : N + os.length + 2 < s.heap.objs.size := Heap.lt_size hz
  have mz : ∀ (c : Nat), c ∉ chN N os → ¬ (c = N + os.length + 2) := fun c hc e => hc (by rw [e]; unfold chN; simp)
  have its : ∀ {k : Nat} {x : Value}, (itsN N os.length)[k]? = some x → ∃ o, os[k]? = some o ∧ x = .ref (N + k) := fun {k x} e => by
    unfold itsN at e
    rw [List.getElem?_map, Option.map_eq_some_iff] at e
    obtain ⟨j, hj, rfl⟩ := e
    have hk : k < os.length := by
      have := (List.getElem?_eq_some_iff.mp hj).1
      simpa using this
    rw [List.getElem?_range hk] at hj; cases hj
    exact ⟨os[k], List.getElem?_eq_getElem hk, rfl⟩
  have no : ¬ (∀ j o, j < os.length → os[j]? = some o → i < o.xs.size) := fun q => by
    obtain ⟨o, ho, e⟩ := hend
    obtain ⟨j, hj, rfl⟩ := List.getElem_of_mem ho
    have := q j os[j] hj (List.getElem?_eq_getElem hj)
    omega
  have ln : (itsN N os.length).length = os.length := by unfold itsN; simp
  show wpAny _ _ (field (.ref _) 2 >>= _) _ _ _
  refine wpAny_bind (wpAny_field hz rfl (x := .bool false) rfl ?_)
  show wpAny _ _ (field (.ref _) 3 >>= _) _ _ _
  refine wpAny_bind (wpAny_field hz rfl (x := .ref (N + os.length)) rfl ?_)
  refine wpAny_bind (wpAny_seqItems hTI rfl ?_)
  have ne : (itsN N os.length).toArray.isEmpty = false := by
    have : (itsN N os.length).toArray.size ≠ 0 := by rw [List.size_toArray, ln]; omega
    simp only [Array.isEmpty, decide_eq_false_iff_not]; exact this
  simp only [ne, Bool.false_eq_true, if_false]
  refine wpAny_bind (zFree hs.z ?_ fun h1 hz1 hs1 => ?_)
  · simp only [if_true]
    refine wpAny_bind (wpAny_rule ?_)
    refine wpAny_bind (wpAny_field hz rfl (x := .ref (N + os.length + 1)) rfl ?_)
    refine wpAny_bind (wpAny_setField_rec hz (by simp) fun g0 hz0 hs0 => ?_)
    have up0 : ∀ (b : Nat) (q : Obj), ¬ (b = N + os.length + 2) → s.heap.get? b = some q → g0.get? b = some q := fun b q hb e => by rw [hs0.2 b hb]; exact e
    refine wpAny_bind (forIn_all (fun k b s' => b = (none, ()) ∧ (∀ j o, j < k → os[j]? = some o → i < o.xs.size) ∧ ∃ g tk, s' = { s with heap := g, toks := tk } ∧ LP s.heap { cls := .type "zip", dict := none, data := .fields #[.ellipsis, .bool f, .bool false, .ref (N + os.length), .ref (N + os.length + 1)], slots := #[] } N os i k true g) ⟨rfl, fun j _ hj => absurd hj (by omega), g0, s.toks, rfl, ⟨fun j o ho => ?_, up0 _ _ (by omega) hTI, hz0, ⟨vs, hvs, up0 _ _ (by omega) hTO, fun _ j o hj => absurd hj (by omega)⟩, fun c q hc e => up0 c q (mz c hc) e, hs0.1⟩⟩ ?_ ?_)
    · have hpa := hlt o (List.mem_of_getElem? ho)
      have hpj := lt_get ho
      have c0 : ¬ (j < 0) := by omega
      rw [if_neg c0]
      refine (hs.st j o ho).at fun b hb q e3 => up0 b q ?_ e3
      rcases hb with rfl | rfl
      · omega
      · omega
    · rintro k ⟨x, k'⟩ b s' hx ⟨rfl, lo, g, tk, rfl, L⟩
      obtain ⟨hx1, rfl⟩ : (itsN N os.length)[k]? = some x ∧ k' = k := by
        rw [List.getElem?_zipIdx, Option.map_eq_some_iff] at hx
        obtain ⟨y, h1, h2⟩ := hx
        simp at h2
        exact ⟨by rw [h1, h2.1], h2.2.symm⟩
      obtain ⟨o, ho, rfl⟩ := its hx1
      have hk := lt_get ho
      have hoa := hlt o (List.mem_of_getElem? ho)
      have st := L.st k' o ho
      have ck : ¬ (k' < k') := by omega
      rw [if_neg ck] at st
      refine wpAny_bind (wpAny_onRaise ?_)
      show wpAny _ _ (Builtin.SmallTypes.nextOf (.ref (N + k')) >>= _) _ _ _
      by_cases hc : i < o.xs.size
      case neg =>
        have := hi o (List.mem_of_getElem? ho)
        refine wpAny_bind (zdone hh (neA (by omega)) (by omega) st fun h2 e hq he => ?_)
        obtain ⟨oe, hoe, hce⟩ := he
        have hz2 := hq (N + os.length + 2) _ (neA (by omega)) L.z
        have hez : e ≠ N + os.length + 2 := fun x => by rw [x] at hoe; rw [hz2] at hoe; cases hoe; simp at hce
        refine wpAny_setField_rec hz2 (by simp) fun h3 _ hs3 => ?_
        refine hE h3 tk e (fun c q hc e2 => ?_) ⟨oe, by rw [hs3.2 e hez]; exact hoe, hce⟩
        rw [hs3.2 c (mz c hc)]
        exact hq c q (fun e3 => hc (by rw [e3]; unfold chN; simp; omega)) (L.keep c q hc e2)
      refine wpAny_bind (zdraw hh (neA (by omega)) hc st fun h2 tk2 st2 hs2 => wpAny_pure ?_)
      have lo' : ∀ j p, j < k' + 1 → os[j]? = some p → i < p.xs.size := fun j p hj hp => by
        by_cases q : j = k'
        · subst q; rw [ho] at hp; cases hp; exact hc
        · exact lo j p (by omega) hp
      obtain ⟨a1, a2, a3, ⟨us, u1, u2, u3⟩, a5, a6⟩ := L.next hlt ho st2 hs2
      refine wpAny_bind (wpAny_seqItems u2 rfl ?_)
      refine wpAny_bind (wpAny_updateSeq (xs := us) (hz := szN (by omega)) (_hz' := szN1 (by rw [Array.size_setIfInBounds]; omega)) u2 rfl ?_)
      refine wpAny_bind (wpAny_letGo (wpAny_pure ⟨_, rfl, rfl, lo', _, _, rfl, L.write hlt ho st2 hs2 u1 (u3 rfl) ?_ (Heap.SameBut.update ..)⟩))
      refine (Heap.get?_update_self _ u2 rfl).trans ?_
      simp [Obj.mapSeq]
    · rintro b s' ⟨rfl, lo, g, tk, rfl, L⟩
      rw [List.length_zipIdx, ln] at lo
      exact absurd lo no
  · simp only [Bool.false_eq_true, if_false]
    have up0 : ∀ (b : Nat) (q : Obj), ¬ (b = N + os.length + 2) → s.heap.get? b = some q → h1.get? b = some q := fun b q hb e => by rw [hs1.2 b hb]; exact e
    obtain ⟨v1, f1, hv1, hz1'⟩ := id hz1
    rw [← Array.forIn_toList]
    refine wpAny_bind (forIn_all (l := itsN N os.length) (fun k b s' => b.1 = none ∧ (∀ j o, j < k → os[j]? = some o → i < o.xs.size) ∧ ∃ g tk, s' = { s with heap := g, toks := tk } ∧ LP s.heap { cls := .type "zip", dict := none, data := .fields #[v1, .bool f1, .bool false, .ref (N + os.length), .ref (N + os.length + 1)], slots := #[] } N os i k false g) ⟨rfl, fun j _ hj => absurd hj (by omega), h1, s.toks, rfl, ⟨fun j o ho => ?_, up0 _ _ (by omega) hTI, hz1', ⟨vs, hvs, up0 _ _ (by omega) hTO, fun e => by cases e⟩, fun c q hc e => up0 c q (mz c hc) e, hs1.1⟩⟩ ?_ ?_)
    · have hpa := hlt o (List.mem_of_getElem? ho)
      have hpj := lt_get ho
      have c0 : ¬ (j < 0) := by omega
      rw [if_neg c0]
      refine (hs.st j o ho).at fun b hb q e3 => up0 b q ?_ e3
      rcases hb with rfl | rfl
      · omega
      · omega
    · rintro k x ⟨b1, b2⟩ s' hx ⟨hb1, lo, g, tk, rfl, L⟩
      obtain ⟨o, ho, rfl⟩ := its hx
      have hk := lt_get ho
      have hoa := hlt o (List.mem_of_getElem? ho)
      have st := L.st k o ho
      have ck : ¬ (k < k) := by omega
      rw [if_neg ck] at st
      refine wpAny_bind (wpAny_holding ?_)
      show wpAny _ _ (Builtin.SmallTypes.nextOf (.ref (N + k)) >>= _) _ _ _
      by_cases hc : i < o.xs.size
      case neg =>
        have := hi o (List.mem_of_getElem? ho)
        refine wpAny_bind (zdone hh (neA (by omega)) (by omega) st fun h2 e hq he => ?_)
        exact hE h2 tk e (fun c q hc e2 => hq c q (fun e3 => hc (by rw [e3]; unfold chN; simp; omega)) (L.keep c q hc e2)) he
      refine wpAny_bind (zdraw hh (neA (by omega)) hc st fun h2 tk2 st2 hs2 => wpAny_pure ?_)
      have lo' : ∀ j p, j < k + 1 → os[j]? = some p → i < p.xs.size := fun j p hj hp => by
        by_cases q : j = k
        · subst q; rw [ho] at hp; cases hp; exact hc
        · exact lo j p (by omega) hp
      obtain ⟨a1, a2, a3, ⟨us, u1, u2, u3⟩, a5, a6⟩ := L.next hlt ho st2 hs2
      refine wpAny_pure ⟨_, rfl, rfl, lo', _, _, rfl, ⟨a1, a2, a3, ⟨us, u1, u2, fun e => by cases e⟩, a5, a6⟩⟩
    · rintro ⟨b1, b2⟩ s' ⟨hb1, lo, g, tk, rfl, L⟩
      rw [ln] at lo
      exact absurd lo no
theorem zn_next_item {N : Nat} {os : List One} {i : Nat} {Q : Option Value → Shared → Prop} (hh : A.handled = none) (h0 : 0 < os.length) (hsmall : os.length ≤ 100) (hlt : ∀ o ∈ os, o.a < N) (hs : ZN s.heap N os i) (hi : ∀ o ∈ os, i < o.xs.size)
    (hQ : ∀ h' tk, ZN h' N os (i + 1) → IsTupV h' s.heap.objs.size (os.map (itemV i)).toArray → (∀ c q, c ∉ chN N os → s.heap.get? c = some q → h'.get? c = some q) → Q (some (.ref s.heap.objs.size)) { s with heap := h', toks := tk }) :
    wpAny (model prog w) A (pyNext (.ref (N + os.length + 2))) Q E s := by
  obtain ⟨v0, f, hv, hz⟩ := id hs.z
  have hT : s.TypeIs (.ref (N + os.length + 2)) "zip" := ⟨_, hz, rfl⟩
  unfold pyNext
  exact wpAny_bind (wpAny_attempt (wpAny_callSpecial?_slot (name := Str.ofString "__next__") hT F.slot_zip_next (wpAny_call_entry F.slot_zip_next hT F.entry_zip_next (zn_item hh h0 hsmall hlt hs hi fun h' tk a b c => wpAny_pure (hQ h' tk a b c)) (F.args_zip_next_1 _))))
theorem zn_next_end {N : Nat} {os : List One} {i : Nat} {Q : Option Value → Shared → Prop} (hh : A.handled = none) (h0 : 0 < os.length) (hsmall : os.length ≤ 100) (hlt : ∀ o ∈ os, o.a < N) (hs : ZN s.heap N os i) (hi : ∀ o ∈ os, i ≤ o.xs.size) (hend : ∃ o ∈ os, i = o.xs.size)
    (hQ : ∀ h' tk, (∀ c q, c ∉ chN N os → s.heap.get? c = some q → h'.get? c = some q) → Q none { s with heap := h', toks := tk }) : wpAny (model prog w) A (pyNext (.ref (N + os.length + 2))) Q E s := by
  obtain ⟨v0, f, hv, hz⟩ := id hs.z
  have hT : s.TypeIs (.ref (N + os.length + 2)) "zip" := ⟨_, hz, rfl⟩
  unfold pyNext
  refine wpAny_bind (wpAny_attempt (wpAny_callSpecial?_slot (name := Str.ofString "__next__") hT F.slot_zip_next (wpAny_call_entry F.slot_zip_next hT F.entry_zip_next (zn_end hh h0 hsmall hlt hs hi hend fun h' tk e hk he => ?_) (F.args_zip_next_1 _))))
  obtain ⟨o, ho, hc⟩ := he
  exact wpAny_bind (wpAny_isInstance (T := "StopIteration") (b := true) ⟨o, ho, hc⟩ isSubtype_stop (wpAny_pure (hQ _ _ hk)))
theorem zn_iter {z TI TO : Addr} {Q : Value → Shared → Prop} (hz : ZOut s.heap z TI TO) (h : Q (.ref z) s) : wpAny (model prog w) A (pyIter (.ref z)) Q E s := by
  obtain ⟨v0, f, hv, hz⟩ := hz
  have hT : s.TypeIs (.ref z) "zip" := ⟨_, hz, rfl⟩
  refine wpAny_pyIter_slot hT F.slot_zip_iter (wpAny_call_entry F.slot_zip_iter hT F.entry_zip_iter ?_ (F.args_zip_iter_1 _))
  exact (show wpAny _ _ (ret (.ref z)) _ _ s from wpAny_pure ⟨_, rfl, "zip", _, hT, F.slot_zip_next.lookup, h⟩)
end
/-- sources and what they hold -/
inductive SqAll (K : PySem.W.Frag) (H : Hp) : List (Bool × Nat) → List (List V) → Prop
  | nil : SqAll K H [] []
  | cons {t a vs r vss} : SqK K t H a vs → SqAll K H r vss → SqAll K H ((t, a) :: r) (vs :: vss)
theorem SqAll.uncons {K : PySem.W.Frag} {H : Hp} {t : Bool} {a : Nat} {r : List (Bool × Nat)} {vss : List (List V)} (h : SqAll K H ((t, a) :: r) vss) : ∃ vs r2, vss = vs :: r2 ∧ SqK K t H a vs ∧ SqAll K H r r2 := by
  cases h with | cons h1 h2 => exact ⟨_, _, rfl, h1, h2⟩
inductive OsAll (h : Heap) : List (Bool × Nat) → List (List V) → List One → Prop
  | nil : OsAll h [] [] []
  | cons {t a vs xs r vss os} : hsK t h a xs → Vals vs xs.toList → a < h.objs.size → OsAll h r vss os → OsAll h ((t, a) :: r) (vs :: vss) (⟨t, a, xs⟩ :: os)
theorem OsAll.len {h : Heap} : ∀ {r vss os}, OsAll h r vss os → os.length = r.length
  | _, _, _, .nil => rfl
  | _, _, _, .cons _ _ _ q => by simp [q.len]
theorem OsAll.at {h : Heap} : ∀ {r vss os}, OsAll h r vss os → ∀ (j : Nat) (o : One), os[j]? = some o → r[j]? = some (o.t, o.a) ∧ hsK o.t h o.a o.xs ∧ o.a < h.objs.size
  | _, _, _, .nil, j, o, e => by simp at e
  | _, _, _, .cons h1 h2 h3 q, 0, o, e => by simp at e; subst e; exact ⟨rfl, h1, h3⟩
  | _, _, _, .cons h1 h2 h3 q, j + 1, o, e => by simp at e ⊢; exact q.at j o e
theorem OsAll.lt {h : Heap} {i : Nat} : ∀ {r vss os}, OsAll h r vss os → (∀ vs ∈ vss, i < vs.length) → ∀ o ∈ os, i < o.xs.size
  | _, _, _, .nil, _, o, e => by simp at e
  | _, _, _, .cons h1 h2 h3 q, hl, o, e => by
    rcases List.mem_cons.mp e with rfl | e
    · have := h2.length
      have := hl _ List.mem_cons_self
      simp at *; omega
    · exact q.lt (fun vs hv => hl vs (List.mem_cons_of_mem _ hv)) o e
theorem OsAll.le {h : Heap} {i : Nat} : ∀ {r vss os}, OsAll h r vss os → (∀ vs ∈ vss, i ≤ vs.length) → ∀ o ∈ os, i ≤ o.xs.size
  | _, _, _, .nil, _, o, e => by simp at e
  | _, _, _, .cons h1 h2 h3 q, hl, o, e => by
    rcases List.mem_cons.mp e with rfl | e
    · have := h2.length
      have := hl _ List.mem_cons_self
      simp at *; omega
    · exact q.le (fun vs hv => hl vs (List.mem_cons_of_mem _ hv)) o e
theorem OsAll.ex {h : Heap} {i : Nat} : ∀ {r vss os}, OsAll h r vss os → (∃ vs ∈ vss, vs.length = i) → ∃ o ∈ os, i = o.xs.size
  | _, _, _, .nil, ⟨vs, e, _⟩ => by simp at e
  | _, _, _, .cons (xs := xs) h1 h2 h3 q, ⟨vs, e, hl⟩ => by
    rcases List.mem_cons.mp e with rfl | e
    · exact ⟨_, List.mem_cons_self, by have := h2.length; simp at *; omega⟩
    · obtain ⟨o, ho, h⟩ := q.ex ⟨vs, e, hl⟩
      exact ⟨o, List.mem_cons_of_mem _ ho, h⟩
/-- the items of one turn -/
def itemsV (i : Nat) (vss : List (List V)) : List V := vss.filterMap (·[i]?)
theorem OsAll.vals {h : Heap} {i : Nat} : ∀ {r vss os}, OsAll h r vss os → (∀ vs ∈ vss, i < vs.length) → Vals (itemsV i vss) (os.map (itemV i)) ∧ (itemsV i vss).map some = vss.map (·[i]?)
  | _, _, _, .nil, _ => ⟨.nil, rfl⟩
  | _, _, _, .cons (vs := vs) h1 h2 h3 q, hl => by
    obtain ⟨a, b⟩ := q.vals fun vs hv => hl vs (List.mem_cons_of_mem _ hv)
    have hi := hl vs List.mem_cons_self
    have e : vs[i]? = some vs[i] := List.getElem?_eq_getElem hi
    obtain ⟨u, hu, ru⟩ := h2.get e
    unfold itemsV at *
    rw [List.filterMap_cons, e]
    refine ⟨?_, by simp only [List.map_cons, b, e]⟩
    rw [List.map_cons]
    refine .cons ?_ a
    unfold itemV
    rw [List.getD_eq_getElem?_getD, hu]; exact ru
section
variable {X : Cx} {pins : List (Addr × Obj)} {σ : L2.St} {H : Hp} {s : Shared}
theorem mkOnes (I : Inv X pins σ H s) : ∀ {r vss}, SqAll X.K H r vss → ∃ os, OsAll s.heap r vss os
  | _, _, .nil => ⟨[], .nil⟩
  | _, _, .cons h q => by
    obtain ⟨os, ho⟩ := mkOnes I q
    obtain ⟨its, rv, p, la⟩ := inv_sqK I h
    exact ⟨_, .cons p (by simpa using rv) la ho⟩
theorem sqAll_inj (I : Inv X pins σ H s) : ∀ {r vss wss}, SqAll X.K H r vss → SqAll X.K H r wss → vss = wss
  | _, _, _, .nil, .nil => rfl
  | _, _, _, .cons h q, .cons h' q' => by rw [sqK_inj I h h', sqAll_inj I q q']
end
/-- rows of items -/
def JzN (K : PySem.W.Frag) (r : List (Bool × Nat)) : L2.It :=
  ⟨fun i H => ∃ vss, SqAll K H r vss ∧ ∀ vs ∈ vss, i < vs.length,
    fun i H v H' => ∃ (T : Addr) (ws : List V), v = .ref T ∧ H T = none ∧ H' = upd H T (.tup ws) ∧ ∀ vss, SqAll K H r vss → ws.map some = vss.map (·[i]?),
    fun i H => ∃ vss, SqAll K H r vss ∧ (∀ vs ∈ vss, i ≤ vs.length) ∧ ∃ vs ∈ vss, vs.length = i⟩
/-- a zip's cells before its turn i -/
def stZN (N : Nat) (r : List (Bool × Nat)) (i : Nat) (h : Heap) : Prop :=
  ZOut h (N + r.length + 2) (N + r.length) (N + r.length + 1) ∧ IsTupV h (N + r.length) (itsN N r.length).toArray ∧ (∃ vs : Array Value, vs.size = r.length ∧ IsTupV h (N + r.length + 1) vs) ∧ ∀ (j : Nat) (t : Bool) (a : Nat), r[j]? = some (t, a) → itK t h (N + j) a i
def fpN (N : Nat) (r : List (Bool × Nat)) : List Addr := (N + r.length + 2) :: (N + r.length) :: (N + r.length + 1) :: (List.range r.length).map (N + ·)
theorem stZN.zn {N : Nat} {r : List (Bool × Nat)} {i : Nat} {h : Heap} {vss : List (List V)} {os : List One} (st : stZN N r i h) (ho : OsAll h r vss os) : ZN h N os i := by
  obtain ⟨a, b, c, d⟩ := st
  rw [← ho.len] at a b c
  refine ⟨a, b, c, fun j o hj => ?_⟩
  obtain ⟨e, f, _⟩ := ho.at j o hj
  exact ⟨d j o.t o.a e, f⟩
theorem stZN.of {N : Nat} {r : List (Bool × Nat)} {i : Nat} {h h0 : Heap} {vss : List (List V)} {os : List One} (z : ZN h N os i) (ho : OsAll h0 r vss os) : stZN N r i h := by
  obtain ⟨a, b, c, d⟩ := z
  rw [ho.len] at a b c
  refine ⟨a, b, c, fun j t x hj => ?_⟩
  have hl : j < os.length := by rw [ho.len]; exact (List.getElem?_eq_some_iff.mp hj).1
  have e := List.getElem?_eq_getElem hl
  obtain ⟨q, _, _⟩ := ho.at j _ e
  rw [hj] at q; cases q
  exact (d j _ e).1
theorem mem_fpN {N : Nat} {r : List (Bool × Nat)} {c : Nat} : c ∈ fpN N r ↔ (N ≤ c ∧ c ≤ N + r.length + 2) := by
  unfold fpN
  simp only [List.mem_cons, List.mem_map, List.mem_range]
  constructor
  · rintro (q | q | q | ⟨j, hj, q⟩) <;> omega
  · intro q
    by_cases e : c < N + r.length
    · exact .inr (.inr (.inr ⟨c - N, by omega, by omega⟩))
    · omega
theorem objN {N : Nat} {r : List (Bool × Nat)} {i : Nat} {h : Heap} (st : stZN N r i h) (c : Nat) (h1 : N ≤ c) (h2 : c ≤ N + r.length + 2) : ∃ o, h.get? c = some o ∧ ∀ v, o.data ≠ .cell v := by
  obtain ⟨⟨v0, f, _, hz⟩, hTI, ⟨vs, _, hTO⟩, hd⟩ := st
  by_cases e : c < N + r.length
  · have hl : c - N < r.length := by omega
    have hj : r[c - N]? = some r[c - N] := List.getElem?_eq_getElem hl
    obtain ⟨o, us, e1, e2⟩ := (hd (c - N) r[c - N].1 r[c - N].2 hj).obj
    rw [show N + (c - N) = c by omega] at e1
    exact ⟨o, e1, fun v q => fields_cell (e2.symm.trans q)⟩
  · by_cases e1 : c = N + r.length
    · rw [e1]; exact ⟨_, hTI, fun v q => nomatch q⟩
    · by_cases e2 : c = N + r.length + 1
      · rw [e2]; exact ⟨_, hTO, fun v q => nomatch q⟩
      · rw [show c = N + r.length + 2 by omega]; exact ⟨_, hz, fun v q => nomatch q⟩
theorem chN_fp {N : Nat} {r : List (Bool × Nat)} {os : List One} (e : os.length = r.length) (c : Nat) (h : c ∈ chN N os) : c ∈ fpN N r := by
  refine mem_fpN.mpr ?_
  unfold chN at h
  simp only [List.mem_cons, List.mem_map, List.mem_range] at h
  rcases h with q | q | ⟨j, hj, q⟩ <;> omega
theorem turn_zN {P : Program} {w : World} {K : PySem.W.Frag} {x : Str} {xp : Pos} {N : Nat} {r : List (Bool × Nat)} (h0 : 0 < r.length) (hsmall : r.length ≤ 100) (hlt : ∀ p ∈ r, p.2 < N) :
    Turn P w K (.Name x xp) (JzN K r) (fpN N r) (N + r.length + 2) (stZN N r) where
  mem := mem_fpN.mpr ⟨by omega, by omega⟩
  obj := fun i h st c hc => objN st c (mem_fpN.mp hc).1 (mem_fpN.mp hc).2
  keep := fun i h h' st k => by
    obtain ⟨⟨v0, f, hv, hz⟩, hTI, ⟨vs, h1, hTO⟩, hd⟩ := st
    have k2 : ∀ (c : Nat) (o : Obj), N ≤ c ∧ c ≤ N + r.length + 2 → h.get? c = some o → h'.get? c = some o := fun c o hc => k c (mem_fpN.mpr hc) o
    refine ⟨⟨v0, f, hv, k2 _ _ (by omega) hz⟩, k2 _ _ (by omega) hTI, ⟨vs, h1, k2 _ _ (by omega) hTO⟩, fun j t a hj => ?_⟩
    have hl := (List.getElem?_eq_some_iff.mp hj).1
    exact (hd j t a hj).at fun o q => k2 _ _ (by omega) q
  item := by
    intro X hP hw hK hc i pins s σ H E I hf st hg
    subst hP hw hK
    obtain ⟨vss, hq, hi⟩ := hg
    obtain ⟨os, ho⟩ := mkOnes I hq
    have z := st.zn ho
    have ol := ho.len
    have ho0 : 0 < os.length := by omega
    have hos : os.length ≤ 100 := by omega
    obtain ⟨hv, hv2⟩ := ho.vals hi
    have hlt' : ∀ o ∈ os, o.a < N := fun o hm => by
      obtain ⟨j, hj, rfl⟩ := List.getElem_of_mem hm
      exact hlt _ (List.mem_of_getElem? (ho.at j _ (List.getElem?_eq_getElem hj)).1)
    have hzl : N + os.length + 2 < s.heap.objs.size := by obtain ⟨_, _, _, q⟩ := z.z; exact Heap.lt_size q
    rw [← ol]
    refine zn_next_item (I.ok.hd hc) ho0 hos hlt' z (ho.lt hi) fun h' tk z' hT hk => ?_
    refine ⟨_, rfl, wpAny_pure ?_⟩
    have new : ObjOk X.prog X.w (upd H s.heap.objs.size (.tup (itemsV i vss))) h' s.heap.objs.size (.tup (itemsV i vss)) := ⟨?_, _, hv, ⟨_, hT, rfl, _, rfl⟩⟩
    · have I1 : Inv X pins σ (upd H s.heap.objs.size (.tup (itemsV i vss))) { s with heap := h', toks := tk } :=
        I.turnedNew (t' := tk) (ch := chN N os) hk (fun c hc => hf c (chN_fp ol c hc)) (Nat.le_refl _) new
      refine ⟨.ref s.heap.objs.size, _, I1, rfl, ⟨_, _, rfl, I.hok.fresh (Nat.le_refl _), rfl, fun wss hw => by rw [← sqAll_inj I hq hw]; exact hv2⟩, stZN.of z' ho, fun c hcm => ?_⟩
      have hlt2 : c < s.heap.objs.size := Nat.lt_of_le_of_lt (mem_fpN.mp hcm).2 (by rw [← ol]; exact hzl)
      rw [upd_ne (Nat.ne_of_lt hlt2)]
      exact (hf c hcm).1
    · have : (itemsV i vss).length = os.length := by rw [hv.length]; simp
      exact szN (by show (itemsV i vss).length ≤ 1000; omega)
  done := by
    intro X hP hw hK hc i pins s σ H E I hf st hg
    subst hP hw hK
    obtain ⟨vss, hq, hi, hend⟩ := hg
    obtain ⟨os, ho⟩ := mkOnes I hq
    have z := st.zn ho
    have ol := ho.len
    have ho0 : 0 < os.length := by omega
    have hos : os.length ≤ 100 := by omega
    have hlt' : ∀ o ∈ os, o.a < N := fun o hm => by
      obtain ⟨j, hj, rfl⟩ := List.getElem_of_mem hm
      exact hlt _ (List.mem_of_getElem? (ho.at j _ (List.getElem?_eq_getElem hj)).1)
    rw [← ol]
    exact zn_next_end (I.ok.hd hc) ho0 hos hlt' z (ho.le hi) (ho.ex hend) fun h' tk hk => ⟨rfl, I.turnedL (t' := tk) (ch := chN N os) hk fun c hc => hf c (chN_fp ol c hc)⟩
  self := fun A i s Q E st h => zn_iter st.1 h
theorem FZ.typeCall4 (a b c d : Value) : checkTypeCall "zip" ⟨[a, b, c, d], []⟩ = pure () := by kernel_rfl
theorem FZ.newCall4 (a b c d : Value) : checkBuiltinCall "zip.__new__" ⟨[.type "zip", a, b, c, d], []⟩ = pure () := by kernel_rfl
theorem FZ.init5 (obj a b c d : Value) : argsOk "object.__init__" ⟨[obj, a, b, c, d], []⟩ := by unfold argsOk; kernel_rfl
abbrev gzI4 (h : Heap) (o1 o2 o3 o4 : Obj) : Heap := (((h.push o1).push o2).push o3).push o4
abbrev gzT4 (h : Heap) (o1 o2 o3 o4 : Obj) : Heap := (gzI4 h o1 o2 o3 o4).push { cls := .type "tuple", data := .seq #[.ref h.objs.size, .ref (h.push o1).objs.size, .ref ((h.push o1).push o2).objs.size, .ref (((h.push o1).push o2).push o3).objs.size] }
abbrev gzO4 (h : Heap) (o1 o2 o3 o4 : Obj) : Heap := (gzT4 h o1 o2 o3 o4).push { cls := .type "tuple", data := .seq #[.none, .none, .none, .none] }
abbrev gzZ4 (h : Heap) (o1 o2 o3 o4 : Obj) : Heap := (gzO4 h o1 o2 o3 o4).push { cls := .type "zip", data := .fields #[.none, .bool false, .bool false, .ref (gzI4 h o1 o2 o3 o4).objs.size, .ref (gzT4 h o1 o2 o3 o4).objs.size] }
open PySem in
set_option maxHeartbeats 4000000 in
theorem meets_zip4 {v1 v2 v3 v4 : Value} {o1 o2 o3 o4 : Obj} {H1 H2 H3 H4 : Heap → Prop} (B1 : Begins v1 o1 H1) (B2 : Begins v2 o2 H2) (B3 : Begins v3 o3 H3) (B4 : Begins v4 o4 H4) :
    Meets (Builtin.«zip.__new__» ⟨[.type "zip", v1, v2, v3, v4], []⟩) (fun _ R s => (H1 s.heap ∧ H2 s.heap ∧ H3 s.heap ∧ H4 s.heap) ∧ R (.ok (.ret (.ref (gzO4 s.heap o1 o2 o3 o4).objs.size))) { s with heap := gzZ4 s.heap o1 o2 o3 o4 }) :=
  .of_wp fun prog w A R s h => by
    obtain ⟨hp, g, d, tk, os⟩ := s; obtain ⟨⟨h1, h2, h3, h4⟩, h⟩ := h
    have hsub := sub_zip
    have q1 : ∀ {A' : Around} {E : Value → Shared → Prop} {Q : Value → Shared → Prop}, Q (.ref hp.objs.size) ⟨(hp.push o1), g, d, tk, os⟩ → wpAny (model prog w) A' (pyIter v1) Q E ⟨hp, g, d, tk, os⟩ := fun q => B1.iter prog w _ _ ⟨hp, g, d, tk, os⟩ _ h1 q
    have q2 : ∀ {A' : Around} {E : Value → Shared → Prop} {Q : Value → Shared → Prop}, Q (.ref (hp.push o1).objs.size) ⟨((hp.push o1).push o2), g, d, tk, os⟩ → wpAny (model prog w) A' (pyIter v2) Q E ⟨(hp.push o1), g, d, tk, os⟩ := fun q => B2.iter prog w _ _ ⟨(hp.push o1), g, d, tk, os⟩ _ (B2.keeps _ _ h2 fun b o' e => Heap.get?_push_of_some _ e) q
    have q3 : ∀ {A' : Around} {E : Value → Shared → Prop} {Q : Value → Shared → Prop}, Q (.ref ((hp.push o1).push o2).objs.size) ⟨(((hp.push o1).push o2).push o3), g, d, tk, os⟩ → wpAny (model prog w) A' (pyIter v3) Q E ⟨((hp.push o1).push o2), g, d, tk, os⟩ := fun q => B3.iter prog w _ _ ⟨((hp.push o1).push o2), g, d, tk, os⟩ _ (B3.keeps _ _ h3 fun b o' e => Heap.get?_push_of_some _ (Heap.get?_push_of_some _ e)) q
    have q4 : ∀ {A' : Around} {E : Value → Shared → Prop} {Q : Value → Shared → Prop}, Q (.ref (((hp.push o1).push o2).push o3).objs.size) ⟨((((hp.push o1).push o2).push o3).push o4), g, d, tk, os⟩ → wpAny (model prog w) A' (pyIter v4) Q E ⟨(((hp.push o1).push o2).push o3), g, d, tk, os⟩ := fun q => B4.iter prog w _ _ ⟨(((hp.push o1).push o2).push o3), g, d, tk, os⟩ _ (B4.keeps _ _ h4 fun b o' e => Heap.get?_push_of_some _ (Heap.get?_push_of_some _ (Heap.get?_push_of_some _ e))) q
    wp_walk using q1, q2, q3, q4
    exact ⟨_, rfl, h⟩
theorem zip_begins4 {prog : Program} {w : World} {A : Around} {E : Value → Shared → Prop} {s : Shared} {v1 v2 v3 v4 : Value} {o1 o2 o3 o4 : Obj} {H1 H2 H3 H4 : Heap → Prop} {Q : Value → Shared → Prop} (B1 : Begins v1 o1 H1) (B2 : Begins v2 o2 H2) (B3 : Begins v3 o3 H3) (B4 : Begins v4 o4 H4) (h1 : H1 s.heap) (h2 : H2 s.heap) (h3 : H3 s.heap) (h4 : H4 s.heap)
    (h : ∀ h', ZOut h' (s.heap.objs.size + 6) (s.heap.objs.size + 4) (s.heap.objs.size + 5) → IsTupV h' (s.heap.objs.size + 4) (itsN s.heap.objs.size 4).toArray → IsTupV h' (s.heap.objs.size + 5) #[.none, .none, .none, .none] →
      h'.get? s.heap.objs.size = some o1 → h'.get? (s.heap.objs.size + 1) = some o2 → h'.get? (s.heap.objs.size + 2) = some o3 → h'.get? (s.heap.objs.size + 3) = some o4 → (∀ c o, s.heap.get? c = some o → h'.get? c = some o) → Q (.ref (s.heap.objs.size + 6)) { s with heap := h' }) :
    wpAny (model prog w) A (call (.type "zip") [v1, v2, v3, v4]) Q E s := by
  refine callType_new F.called_zip (by decide) (FZ.typeCall4 _ _ _ _) (FZ.newCall4 _ _ _ _) (fun obj => FZ.init5 obj _ _ _ _) F.entry_zip_new (meets_zip4 B1 B2 B3 B4) ⟨⟨h1, h2, h3, h4⟩, ?_⟩
  have z1 : (s.heap.push o1).objs.size = s.heap.objs.size + 1 := Heap.size_push ..
  have z2 : ((s.heap.push o1).push o2).objs.size = s.heap.objs.size + 2 := (Heap.size_push ..).trans (by rw [z1])
  have z3 : (((s.heap.push o1).push o2).push o3).objs.size = s.heap.objs.size + 3 := (Heap.size_push ..).trans (by rw [z2])
  have z4 : (gzI4 s.heap o1 o2 o3 o4).objs.size = s.heap.objs.size + 4 := (Heap.size_push ..).trans (by rw [z3])
  have zT : (gzT4 s.heap o1 o2 o3 o4).objs.size = s.heap.objs.size + 5 := (Heap.size_push ..).trans (by rw [z4])
  have zO : (gzO4 s.heap o1 o2 o3 o4).objs.size = s.heap.objs.size + 6 := (Heap.size_push ..).trans (by rw [zT])
  have u : ∀ {g : Heap} {c : Addr} {o q : Obj}, g.get? c = some o → (g.push q).get? c = some o := fun e => Heap.get?_push_of_some _ e
  have gZ : (gzZ4 s.heap o1 o2 o3 o4).get? (gzO4 s.heap o1 o2 o3 o4).objs.size = some { cls := .type "zip", data := .fields #[.none, .bool false, .bool false, .ref (gzI4 s.heap o1 o2 o3 o4).objs.size, .ref (gzT4 s.heap o1 o2 o3 o4).objs.size] } := Heap.get?_push_size _ rfl
  have gO : (gzZ4 s.heap o1 o2 o3 o4).get? (gzT4 s.heap o1 o2 o3 o4).objs.size = some { cls := .type "tuple", data := .seq #[.none, .none, .none, .none] } := u (Heap.get?_push_size _ rfl)
  have gT : (gzZ4 s.heap o1 o2 o3 o4).get? (gzI4 s.heap o1 o2 o3 o4).objs.size = some { cls := .type "tuple", data := .seq #[.ref s.heap.objs.size, .ref (s.heap.push o1).objs.size, .ref ((s.heap.push o1).push o2).objs.size, .ref (((s.heap.push o1).push o2).push o3).objs.size] } := u (u (Heap.get?_push_size _ rfl))
  have g1 : (gzZ4 s.heap o1 o2 o3 o4).get? s.heap.objs.size = some o1 := u (u (u (u (u (u (Heap.get?_push_size _ B1.free))))))
  have g2 : (gzZ4 s.heap o1 o2 o3 o4).get? (s.heap.push o1).objs.size = some o2 := u (u (u (u (u (Heap.get?_push_size _ B2.free)))))
  have g3 : (gzZ4 s.heap o1 o2 o3 o4).get? ((s.heap.push o1).push o2).objs.size = some o3 := u (u (u (u (Heap.get?_push_size _ B3.free))))
  have g4 : (gzZ4 s.heap o1 o2 o3 o4).get? (((s.heap.push o1).push o2).push o3).objs.size = some o4 := u (u (u (Heap.get?_push_size _ B4.free)))
  rw [zO, zT, z4] at gZ
  rw [zT] at gO
  rw [z4, z3, z2, z1] at gT
  rw [z1] at g2
  rw [z2] at g3
  rw [z3] at g4
  exact (show _ ∧ _ from by rw [zO]; exact ⟨⟨_, gZ, rfl⟩, h _ ⟨_, _, .inl rfl, gZ⟩ gT gO g1 g2 g3 g4 fun c o e => u (u (u (u (u (u (u e))))))⟩)
section
variable {X : Cx} {e e2 e3 e4 : Expr} {ta : TA} {p pos xp : Pos} {x : Str}
def iZN (K : PySem.W.Frag) (n : Nat) (ta : TA) : TI := fun σ H R => ta σ H fun vs H1 => ∃ (r : List (Bool × Nat)) (vss : List (List V)), r.length = n ∧ vs = r.map (fun p => .ref p.2) ∧ SqAll K H1 r vss ∧ R (JzN K r) H1
theorem pi_zN2 (hg : Gl X "zip") (hm : X.mg "zip" = none) (ha : PA X [e, e2] ta)
    (hs : starEach [e, e2] X.env = (false, eval e X.env) :: starEach [e2] X.env) (hpl : (backTo pos (starEach [e2] X.env)).any (·.1) = false) :
    PI X (.Name x xp) (.Call (.Name "zip" p) [e, e2] [] pos) (iZN X.K 2 ta) := by
  refine ⟨fun pins s σ H R I h => ?_⟩
  refine Call_ (ld_blt I hg hm PyProof.Rows.boot_zip (PyProof.Rows.callWith_type1 (thn (ha.run pos pins s σ H _ I h) fun us s1 ⟨vs, H1, I1, r1, q1⟩ => ?_) hs hpl))
  obtain ⟨r, vss, hr, rfl, hq, q⟩ := q1
  match r, hr, hq with
  | [(t1, a), (t2, b)], _, hq =>
    obtain ⟨xs, r2, rfl, hqx, hq⟩ := hq.uncons
    obtain ⟨ys, r3, rfl, hqy, hq⟩ := hq.uncons
    cases r1 with | cons ra r1 =>
    cases r1 with | cons rb r1 =>
    cases r1; cases ra; cases rb
    obtain ⟨its, rv, p1, la⟩ := inv_sqK I1 hqx
    obtain ⟨its2, rv2, p2, lb⟩ := inv_sqK I1 hqy
    refine zip_begins2 (beginsK t1 a its.toArray) (beginsK t2 b its2.toArray) p1 p2 fun h' hz hTI hTO h1 h2 hsz hk => wpAny_pyIter_zip hz ?_
    have I2 : Inv X pins σ H1 { s1 with heap := h' } := I1.kept (t' := s1.toks) hk
    refine ⟨s1.heap.objs.size + 4, fpN s1.heap.objs.size [(t1, a), (t2, b)], _, _, H1, rfl, I2, turn_zN (N := s1.heap.objs.size) (by simp) (by simp) (fun p hp => ?_), ⟨⟨_, _, .inl rfl, hz⟩, hTI, ⟨_, rfl, hTO⟩, fun j t c hj => ?_⟩, fun c hcm => ?_, q⟩
    · simp only [List.mem_cons, List.not_mem_nil, or_false] at hp
      rcases hp with rfl | rfl
      · exact la
      · exact lb
    · match j, hj with
      | 0, hj => simp at hj; obtain ⟨rfl, rfl⟩ := hj; exact itK.new h1
      | 1, hj => simp at hj; obtain ⟨rfl, rfl⟩ := hj; exact itK.new h2
      | j + 2, hj => simp at hj
    · exact I1.fpOk (mem_fpN.mp hcm).1 (I1.hok.fresh (mem_fpN.mp hcm).1)
theorem pi_zN4 (hg : Gl X "zip") (hm : X.mg "zip" = none) (ha : PA X [e, e2, e3, e4] ta)
    (hs : starEach [e, e2, e3, e4] X.env = (false, eval e X.env) :: starEach [e2, e3, e4] X.env) (hpl : (backTo pos (starEach [e2, e3, e4] X.env)).any (·.1) = false) :
    PI X (.Name x xp) (.Call (.Name "zip" p) [e, e2, e3, e4] [] pos) (iZN X.K 4 ta) := by
  refine ⟨fun pins s σ H R I h => ?_⟩
  refine Call_ (ld_blt I hg hm PyProof.Rows.boot_zip (PyProof.Rows.callWith_type1 (thn (ha.run pos pins s σ H _ I h) fun us s1 ⟨vs, H1, I1, r1, q1⟩ => ?_) hs hpl))
  obtain ⟨r, vss, hr, rfl, hq, q⟩ := q1
  match r, hr, hq with
  | [(t1, a), (t2, b), (t3, c), (t4, d)], _, hq =>
    obtain ⟨xs, r2, rfl, hqx, hq⟩ := hq.uncons
    obtain ⟨ys, r3, rfl, hqy, hq⟩ := hq.uncons
    obtain ⟨zs, r4, rfl, hqz, hq⟩ := hq.uncons
    obtain ⟨us, r5, rfl, hqu, hq⟩ := hq.uncons
    cases r1 with | cons ra r1 =>
    cases r1 with | cons rb r1 =>
    cases r1 with | cons rc r1 =>
    cases r1 with | cons rd r1 =>
    cases r1; cases ra; cases rb; cases rc; cases rd
    obtain ⟨its, rv, p1, la⟩ := inv_sqK I1 hqx
    obtain ⟨its2, rv2, p2, lb⟩ := inv_sqK I1 hqy
    obtain ⟨its3, rv3, p3, lc⟩ := inv_sqK I1 hqz
    obtain ⟨its4, rv4, p4, ld⟩ := inv_sqK I1 hqu
    refine zip_begins4 (beginsK t1 a its.toArray) (beginsK t2 b its2.toArray) (beginsK t3 c its3.toArray) (beginsK t4 d its4.toArray) p1 p2 p3 p4 fun h' hz hTI hTO h1 h2 h3 h4 hk => zn_iter hz ?_
    have I2 : Inv X pins σ H1 { s1 with heap := h' } := I1.kept (t' := s1.toks) hk
    refine ⟨s1.heap.objs.size + 6, fpN s1.heap.objs.size [(t1, a), (t2, b), (t3, c), (t4, d)], _, _, H1, rfl, I2, turn_zN (N := s1.heap.objs.size) (by simp) (by simp) (fun p hp => ?_), ⟨hz, hTI, ⟨_, rfl, hTO⟩, fun j t c hj => ?_⟩, fun c hcm => ?_, q⟩
    · simp only [List.mem_cons, List.not_mem_nil, or_false] at hp
      rcases hp with rfl | rfl | rfl | rfl
      · exact la
      · exact lb
      · exact lc
      · exact ld
    · match j, hj with
      | 0, hj => simp at hj; obtain ⟨rfl, rfl⟩ := hj; exact itK.new h1
      | 1, hj => simp at hj; obtain ⟨rfl, rfl⟩ := hj; exact itK.new h2
      | 2, hj => simp at hj; obtain ⟨rfl, rfl⟩ := hj; exact itK.new h3
      | 3, hj => simp at hj; obtain ⟨rfl, rfl⟩ := hj; exact itK.new h4
      | j + 4, hj => simp at hj
    · exact I1.fpOk (mem_fpN.mp hcm).1 (I1.hok.fresh (mem_fpN.mp hcm).1)
end
end M

set_option Elab.async false
set_option maxRecDepth 100000
set_option maxHeartbeats 8000000
/-! M10: walks, targets, comprehensions. -/
namespace M
open PySem L2
open PyProof.Rows hiding St

section
variable {B : Bk1} {C : Ck} {G : Gam} {X : Cx} {sc : Scope} {L : Nat} {σ : L2.St} {H : Hp}
variable {a b c : E} {ea eb ec : Expr} {pos : Pos} {es : List Expr} {ir ks : Es}

/-! what is walked, by values -/
theorem it_list {pins : List (Addr × Obj)} {s : Shared} {tg : Expr} {R : L2.It → Hp → Prop} {E : Value → Shared → Prop} {p : Addr} {xs : List V} (I : Inv X pins σ H s) (hq : SqL X.K H p xs) (q : R (Itl X.K p) H) : wpAny (model X.prog X.w) X.A (pyIter (.ref p)) (PIE X pins σ tg R) E s := by
  obtain ⟨its, rv, pl, hz⟩ := I.list hq
  exact wpAny_pyIter_list pl.isList (pi_one (tk := s.toks) I _ (turn_list p _) ⟨_, Heap.get?_push_size _ rfl, rfl, rfl⟩ q)
theorem it_tup {pins : List (Addr × Obj)} {s : Shared} {tg : Expr} {R : L2.It → Hp → Prop} {E : Value → Shared → Prop} {p : Addr} {xs : List V} (I : Inv X pins σ H s) (hq : SqT X.K H p xs) (q : R (Itt X.K p) H) : wpAny (model X.prog X.w) X.A (pyIter (.ref p)) (PIE X pins σ tg R) E s := by
  obtain ⟨its, rv, pl, hz⟩ := I.tuple hq
  exact wpAny_pyIter_tuple (show s.heap.IsTuple p its.toArray from pl) (pi_one (tk := s.toks) I _ (turn_tuple p _) ⟨_, Heap.get?_push_size _ rfl, rfl, rfl⟩ q)
theorem it_str {pins : List (Addr × Obj)} {s : Shared} {tg : Expr} {R : L2.It → Hp → Prop} {E : Value → Shared → Prop} {x : Str} {t : Tok} (I : Inv X pins σ H s) (q : R (Its x) H) : wpAny (model X.prog X.w) X.A (pyIter (.str x t)) (PIE X pins σ tg R) E s := by
  cases ha : x.cps.all (· < 128)
  · exact wpAny_pyIter_wide ha (pi_one (tk := s.toks) I _ (turn_str _ x t "str_iterator" (.inr rfl)) ⟨_, Heap.get?_push_size _ rfl, rfl, rfl⟩ q)
  · exact wpAny_pyIter_ascii ha (pi_one (tk := s.toks) I _ (turn_str _ x t "str_ascii_iterator" (.inl rfl)) ⟨_, Heap.get?_push_size _ rfl, rfl, rfl⟩ q)
theorem jok_list {K : PySem.W.Frag} {r : Rg} {p : Addr} {items : List D} {own : Option Nat} (hK : K = B.K) (h : ∀ S2 r2 H2, Car r H r2 H2 → RS B r2 S2 H2 → Src.ok ⟨items, own⟩ S2 → ∃ vs, SqL K H2 p vs ∧ RVs B r2 H2 items vs) : JOk B (Itl K p) ⟨items, own⟩ r H := by
  intro i S2 r2 H2 ex hS ok
  obtain ⟨vs, h1, h2⟩ := h S2 r2 H2 ex hS ok
  refine ⟨fun e => ⟨vs, h1, by rw [← h2.length, e]; exact Nat.le_refl _⟩, fun d hd => ?_⟩
  obtain ⟨v, h3, h4⟩ := h2.get hd
  refine ⟨⟨vs, v, h1, h3⟩, fun x H3 hy => ?_⟩
  obtain ⟨e, hy⟩ := hy
  subst e
  have := hy vs h1
  rw [h3] at this; cases this
  exact ⟨.refl, hS, h4⟩
theorem jok_tup {K : PySem.W.Frag} {r : Rg} {p : Addr} {items : List D} (hK : K = B.K) (h : ∀ r2 H2, Car r H r2 H2 → ∃ vs, SqT K H2 p vs ∧ RVs B r2 H2 items vs) : JOk B (Itt K p) ⟨items, none⟩ r H := by
  intro i S2 r2 H2 ex hS ok
  obtain ⟨vs, h1, h2⟩ := h r2 H2 ex
  refine ⟨fun e => ⟨vs, h1, by rw [← h2.length, e]; exact Nat.le_refl _⟩, fun d hd => ?_⟩
  obtain ⟨v, h3, h4⟩ := h2.get hd
  refine ⟨⟨vs, v, h1, h3⟩, fun x H3 hy => ?_⟩
  obtain ⟨e, hy⟩ := hy
  subst e
  have := hy vs h1
  rw [h3] at this; cases this
  exact ⟨.refl, hS, h4⟩
theorem jok_str {r : Rg} {x : Str} : JOk B (Its x) ⟨x.cps.toList.map fun c => .str ⟨#[c]⟩, none⟩ r H := by
  intro i S2 r2 H2 ex hS ok
  refine ⟨fun e => ?_, fun d hd => ?_⟩
  · show x.cps.size ≤ i
    rw [e]; simp
  · have hd : (x.cps.toList.map fun c => D.str ⟨#[c]⟩)[i]? = some d := hd
    rw [List.getElem?_map, Option.map_eq_some_iff] at hd
    obtain ⟨c, h1, rfl⟩ := hd
    have hlt : i < x.cps.size := by
      have := (List.getElem?_eq_some_iff.mp h1).1
      simpa using this
    refine ⟨hlt, fun v H3 ⟨e, c', h2, h3⟩ => ?_⟩
    subst e; subst h3
    have h1' : x.cps[i]? = some c := by simpa using h1
    rw [h1'] at h2; cases h2
    exact ⟨.refl, hS, .str _⟩
theorem jok_rng {r : Rg} {lo : Int} {n : Nat} : JOk B (Itr lo n) ⟨rngItems lo n, none⟩ r H := by
  intro i S2 r2 H2 ex hS ok
  refine ⟨fun e => ?_, fun d hd => ?_⟩
  · show n ≤ i
    rw [e]; simp [rngItems]
  · have hd : ((List.range n).map fun i => D.int (lo + (i : Nat)))[i]? = some d := hd
    rw [List.getElem?_map, Option.map_eq_some_iff] at hd
    obtain ⟨c, h1, rfl⟩ := hd
    obtain ⟨h2, h3⟩ := List.getElem?_eq_some_iff.mp h1
    simp at h2 h3
    subst h3
    refine ⟨h2, fun v H3 ⟨e, h3⟩ => ?_⟩
    subst e; subst h3
    exact ⟨.refl, hS, .int _⟩
/-- the walk of a value -/
theorem src_of (ok : XOk C B L G X sc) {pins : List (Addr × Obj)} {s : Shared} {tg : Expr} {R : L2.It → Hp → Prop} {E : Value → Shared → Prop} {r : Rg} {S : Store} {x : D} {v : V} {u : Value} {k : Src → Prop} (I : Inv X pins σ H s) (hS : RS B r S H) (hx : RV B r H x v) (ru : RelV v u)
    (hw : srcOf x S k) (q : ∀ c J, k c → JOk B J c r H → R J H) : wpAny (model X.prog X.w) X.A (pyIter u) (PIE X pins σ tg R) E s := by
  cases x with
  | tup ds =>
    obtain ⟨p, vs, rfl, h1, h2⟩ := tup_at hx
    cases ru
    refine it_tup (p := p) I (by rw [ok.hK]; exact h1) (q _ _ hw (jok_tup ok.hK fun r2 H2 ex => ?_))
    cases hx with
    | tup n hr hs => exact ⟨_, .inl (ex.rd n hr).1, hs.car ex⟩
    | tupK hr hs => exact ⟨_, by rw [ok.hK]; exact hr H2, hs.car ex⟩
  | lst ds =>
    cases hx with
    | lst n hr hs =>
      cases ru
      exact it_list I (.of hr) (q _ _ hw (jok_list ok.hK fun S2 r2 H2 ex _ _ => ⟨_, .of (ex.keep _ _ hr n).1, hs.car ex⟩))
  | rol ds =>
    cases hx with
    | rol n hr hs =>
      cases ru
      exact it_list I (.inl hr) (q _ _ hw (jok_list ok.hK fun S2 r2 H2 ex _ _ => ⟨_, .inl (ex.rd n hr).1, hs.car ex⟩))
    | rolK hr hs =>
      cases ru
      exact it_list I (by rw [ok.hK]; exact hr H) (q _ _ hw (jok_list ok.hK fun S2 r2 H2 ex _ _ => ⟨_, by rw [ok.hK]; exact hr H2, hs.car ex⟩))
  | ref n =>
    obtain ⟨ds, h1, h2⟩ := hw
    obtain ⟨p, vs, rfl, hr, hH, hv⟩ := cell_at hS h1 hx
    cases ru
    refine it_list (p := p) I (.of hH) (q _ _ h2 (jok_list ok.hK fun S2 r2 H2 ex hS2 hok => ?_))
    have hok : S2[n]? = some (.lst ds) := hok
    obtain ⟨p2, vs2, e, hr2, hH2, hv2⟩ := cell_at hS2 hok (.ref (ex.get _ _ hr))
    cases e
    exact ⟨vs2, .of hH2, hv2⟩
  | str z =>
    cases hx
    obtain ⟨t, rfl⟩ := ru
    exact it_str I (q _ _ hw jok_str)
  | non => exact hw.elim
  | bl _ => exact hw.elim
  | int _ => exact hw.elim
  | ty _ => exact hw.elim
  | ins _ _ _ => exact hw.elim
  | dct _ _ => exact hw.elim
  | exc _ _ _ _ _ => exact hw.elim
theorem i_seq (ok : XOk C B L G X sc) {tg : Expr} (ha : PE X ea (LE B (wE a G))) : PI X tg ea (LI B (wIt (.seq a) G)) := by
  refine ⟨fun pins s σ H R I ⟨r, S, e, F, hS, hO, hw, hf⟩ => ?_⟩
  simp only [wIt] at hw
  refine thn (ha.run pins s σ H (fun v H1 => ∃ r1 S1 x, RS B r1 S1 H1 ∧ RV B r1 H1 x v ∧ Ex r H r1 H1 ∧ srcOf x S1 fun c => F c S1) I ⟨r, S, e, _, hS, hO, hw, fun d S' r' H' v h1 h2 h3 h4 => ⟨r', S', d, h3, h4, h2, h1⟩⟩) fun u s1 ⟨v, H1, I1, ru, r1, S1, x, s1', hx, ex, hw1⟩ => ?_
  exact src_of ok I1 s1' hx ru hw1 fun c J hk hj => hf c S1 r1 H1 J hk ex s1' hj
theorem i_rng1 (ok : XOk C B L G X sc) {tg e0 : Expr} {p : Pos} (hg : isGl sc "range" = true) (hb : hasBt C "range" = true) (hes : isArg e0 = true) (ha : PA X [e0] (LEs B 1 (wEs ir G))) : PI X tg (.Call (.Name "range" p) [e0] [] pos) (LI B (wIt (.rng ir) G)) := by
  refine ⟨fun pins s σ H R I ⟨r, S, e, F, hS, hO, hw, hf⟩ => ?_⟩
  simp only [wIt] at hw
  refine (pi_range1 (ok.glb hg) (by rw [ok.hmg]; exact ok.bt _ hb) ha (star_cons hes)).run pins s σ H R I ⟨r, S, e, _, hS, hO, hw, fun ds S' r' H' vs hn h1 h2 h3 h4 => ?_⟩
  obtain ⟨d, rfl⟩ : ∃ d, ds = [d] := by
    match ds, hn with
    | [d], _ => exact ⟨d, rfl⟩
  obtain ⟨v, rfl, hv⟩ := h4.one
  unfold wRng at h1
  cases d with
  | int j =>
    cases hv
    exact ⟨j, rfl, h1.1.1, h1.1.2, hf _ S' r' H' _ h1.2 h2 h3 jok_rng⟩
  | _ => exact h1.elim
theorem i_rng2 (ok : XOk C B L G X sc) {tg e0 e1 : Expr} {p : Pos} (hg : isGl sc "range" = true) (hb : hasBt C "range" = true) (hes : isArg e0 = true) (hes1 : isArg e1 = true) (ha : PA X [e0, e1] (LEs B 2 (wEs ir G))) : PI X tg (.Call (.Name "range" p) [e0, e1] [] pos) (LI B (wIt (.rng ir) G)) := by
  refine ⟨fun pins s σ H R I ⟨r, S, e, F, hS, hO, hw, hf⟩ => ?_⟩
  simp only [wIt] at hw
  refine (pi_range2 (ok.glb hg) (by rw [ok.hmg]; exact ok.bt _ hb) ha (by rw [star_cons hes, star_cons hes1]; rfl) (by rw [star_cons hes1]; rfl)).run pins s σ H R I ⟨r, S, e, _, hS, hO, hw, fun ds S' r' H' vs hn h1 h2 h3 h4 => ?_⟩
  obtain ⟨d, d', rfl⟩ : ∃ d d', ds = [d, d'] := by
    match ds, hn with
    | [d, d'], _ => exact ⟨d, d', rfl⟩
  obtain ⟨v, u, rfl, hv, hu⟩ := h4.two
  unfold wRng at h1
  cases d with
  | int i =>
    cases d' with
    | int j =>
      cases hv; cases hu
      exact ⟨i, j, rfl, h1.1, hf _ S' r' H' _ h1.2 h2 h3 jok_rng⟩
    | _ => exact h1.elim
  | _ => exact h1.elim

/-! built-in functions with a keyword, types, ranges -/
theorem c_mxd (ok : XOk C B L G X sc) (hh : C.hot = false) {p kp : Pos} {d : E} (hg : isGl sc "max" = true) (hb : hasBt C "max" = true) (hes : isArg ea = true) (ha : PE X ea (LE B (wE a G))) (hd : PE X eb (LE B (wE d G))) :
    PE X (.Call (.Name "max" p) [ea] [⟨some "default", eb, kp⟩] pos) (LE B (wE (.mxd a d) G)) := by
  have pa : PA X [ea] (LEs B 1 (wEs (.cons a .nil) G)) := pa_cons' hes ha pa_nil'
  have pk : PK X [⟨some "default", eb, kp⟩] (LEs B 1 (wEs (.cons d .nil) G)) := pk_cons' hd pk_nil'
  refine PE.imp (pe_callBK (bk_max (B := B) ok.hK (ok.calm hh) ok.un) (ok.glb hg) (by rw [ok.hmg]; exact ok.bt _ hb) (by show bootBuiltins _ = _; decide +kernel) pa pk (by decide) (by decide) (by rw [star_cons hes]; rfl) (by rw [star_cons hes]; rfl) rfl rfl rfl) fun σ H Q ⟨r, S, e, F, hS, hO, hw, hf⟩ => ?_
  simp only [wE] at hw
  refine ⟨r, S, e, fun ds S1 => match ds with | [x] => wE d G e S1 fun y S2 => wMxd x y S2 F | _ => False, hS, hO, by simp only [wEs]; exact hw, fun ds S1 r1 H1 vs hn hk ex s1 hv => ?_⟩
  match ds, hk with
  | [x], hk =>
    obtain ⟨v, rfl, hx⟩ := hv.one
    refine ⟨r1, S1, e, fun zs S2 => match zs with | [y] => wMxd x y S2 F | _ => False, s1, hO.mono ex, by simp only [wEs]; exact hk, fun zs S2 r2 H2 ws hn2 hk2 ex2 s2 hv2 => ?_⟩
    match zs, hk2 with
    | [y], hk2 =>
      obtain ⟨u, rfl, hy⟩ := hv2.one
      exact ⟨r2, S2, x, y, v, u, F, rfl, rfl, s2, hx.mono ex2, hy, hk2, (hf.trans ex).trans ex2⟩
/-- a value's type, as the machine tells it -/
theorem tyD_at {r : Rg} {S : Store} {H : Hp} {x : D} {v : V} {t : String} (hS : RS B r S H) (hx : RV B r H x v) (h : tyD S x = some t) : TyX B.K H v (.type t) := by
  cases hx with
  | non => cases h; exact .base .non
  | bl b => cases h; exact .base (.bl b)
  | int i => cases h; exact .base (.int i)
  | str y => cases h; exact .base (.str y)
  | ty _ => cases h
  | ref hr =>
    rename_i n a
    simp only [tyD] at h
    split at h
    · rename_i ds e
      cases h
      have k := hS.at_ n _ a e hr
      cases k with
      | lst h1 h2 => exact .base (.lst h1)
    · rename_i e
      cases h
      have k := hS.at_ n _ a e hr
      cases k with
      | dct _ h1 h2 => exact .base (.dK h1)
      | dctL _ h1 h2 => exact .fDict h1
    · cases h
  | tup _ hr _ =>
    cases h
    rcases hr with hr | ⟨o, hr⟩
    · exact .base (.tup hr)
    · exact .fTuple hr
  | tupK hr _ =>
    cases h
    rcases hr (fun _ => none) with hr | ⟨o, its, n, hk, hc, _⟩
    · rcases hr with hr | ⟨o, hr⟩ <;> cases hr
    · exact .kTuple hk hc
  | lst _ hr _ => cases h; exact .base (.lst hr)
  | rol _ hr _ =>
    cases h
    rcases hr with hr | ⟨o, hr⟩
    · exact .base (.lst hr)
    · exact .base (.frz hr)
  | rolK hr _ =>
    cases h
    rcases hr (fun _ => none) with hr | ⟨o, its, n, hk, hc, _⟩
    · rcases hr with hr | ⟨o, hr⟩ <;> cases hr
    · exact .kList hk hc
  | ins _ _ _ _ _ => cases h
  | exc _ _ _ _ _ => cases h
  | dct _ _ hr _ =>
    cases h
    rcases hr with hr | ⟨o, hr⟩
    · exact .base (.dK hr)
    · exact .fDict hr
def tysD : List String := ["NoneType", "bool", "int", "str", "tuple", "list", "dict"]
theorem tyD_mem {S : Store} {x : D} {t : String} (h : tyD S x = some t) : t ∈ tysD := by
  unfold tyD at h
  split at h <;> try (cases h; decide)
  · split at h
    · cases h; decide
    · cases h; decide
    · cases h
  · cases h
theorem isTy_mem {T : String} (h : isTy T = true) : T ∈ ["int", "bool", "str", "tuple", "list", "dict"] := by
  unfold isTy at h
  simp only [Bool.or_eq_true, beq_iff_eq] at h
  simp only [List.mem_cons, List.not_mem_nil, or_false]
  rcases h with ((((h | h) | h) | h) | h) | h <;> simp [h]
theorem kit_all : ∀ t ∈ tysD, ∀ T ∈ ["int", "bool", "str", "tuple", "list", "dict"], kitB t T = some (isB t T) := by decide +kernel
theorem boot_ty : ∀ T ∈ ["int", "bool", "str", "tuple", "list", "dict"], bootBuiltins (Str.ofString T) = some (.type T) := by decide +kernel
theorem ty_name : ∀ T ∈ ["int", "bool", "str", "tuple", "list", "dict"], Str.ofString T ≠ "__name__" ∧ (Str.ofString T == ("__debug__" : Str)) = false := by decide +kernel
theorem c_isi (ok : XOk C B L G X sc) {p p2 : Pos} {T : String} (hg : isGl sc "isinstance" = true) (hb : hasBt C "isinstance" = true) (ht : isTy T = true) (hg2 : isGl sc (Str.ofString T) = true) (hb2 : hasBt C (Str.ofString T) = true) (hes : isArg ea = true) (ha : PE X ea (LE B (wE a G))) :
    PE X (.Call (.Name "isinstance" p) [ea, .Name (Str.ofString T) p2] [] pos) (LE B (wE (.isi a T) G)) := by
  have hT := isTy_mem ht
  obtain ⟨n1, n2⟩ := ty_name T hT
  have pt : PE X (.Name (Str.ofString T) p2) (tC (.ty T)) := pe_bltn (ok.glb hg2) (by rw [ok.hmg]; exact ok.bt _ hb2) (boot_ty T hT) rfl n1 n2
  have pa := pa_cons ha (pa_cons pt pa_nil (star_cons rfl)) (star_cons hes)
  refine PE.imp (pe_callB (call_isi (X := X)) (ok.glb hg) (by rw [ok.hmg]; exact ok.bt _ hb) (by show bootBuiltins _ = _; decide +kernel) pa (by decide) (by decide) (star_cons hes) rfl) fun σ H Q ⟨r, S, e, F, hS, hO, hw, hf⟩ => ?_
  simp only [wE] at hw
  refine ⟨r, S, e, _, hS, hO, hw, fun x S1 r1 H1 v hk ex s1 hv => ?_⟩
  obtain ⟨t, h1, h2⟩ := hk
  exact ⟨v, .ty T, .type t, .type T, isB t T, rfl, .ty T, by rw [ok.hK]; exact tyD_at s1 hv h1, kit_ty (kit_all t (tyD_mem h1) T hT), hf _ S1 r1 H1 _ h2 ex s1 (.bl _)⟩
/-- list(range(..)) -/
theorem cr_listR (hc : X.calm = true) : CallR X (.type "list") (fun xs H Q => ∃ p lo hi, xs = [.ref p] ∧ H p = some (.rng lo hi) ∧ (-1000000 ≤ lo ∧ lo ≤ hi ∧ hi ≤ 1000000) ∧ ∀ l, H l = none → Q (.ref l) (upd H l (.lst ((List.range (hi - lo).toNat).map fun i => V.int (lo + (i : Nat)))))) := by
  intro pins s σ H xs us Q I r h
  obtain ⟨p, lo, hi, rfl, hp, ⟨h1, h2, h3⟩, q⟩ := h
  rw [Vals.ref1 r]
  obtain ⟨t, u, v, ho⟩ := I.hok p _ hp
  have hsz : (hi - lo).toNat ≤ 2000000 := by omega
  have hz : Builtin.Range.rangeSize lo hi 1 = (((hi - lo).toNat : Nat) : Int) := by
    unfold Builtin.Range.rangeSize
    rw [if_pos (by omega)]
    split <;> omega
  refine call_list_range (n := (hi - lo).toNat) (I.ok.hd hc) ho (by
    unfold Builtin.Range.small
    rw [hz]
    simp only [Builtin.Range.rangeFitsLong]
    simp
    omega) hz (by omega) fun h' tk acc c' hk hS' hacc => ?_
  have hv : Vals ((List.range (hi - lo).toNat).map fun i => V.int (lo + (i : Nat))) acc.toList := by
    have go : ∀ (n : Nat) (l : List Value), l.length = n → (∀ (j : Nat) (v : Value), l[j]? = some v → ∃ t, v = Value.int (lo + (j : Nat)) t) → Vals ((List.range n).map fun i => V.int (lo + (i : Nat))) l := by
      intro n
      induction n with
      | zero => intro l hl _; rw [List.eq_nil_of_length_eq_zero hl]; exact .nil
      | succ n ih =>
        intro l hl hj
        rcases List.eq_nil_or_concat l with rfl | ⟨ini, las, rfl⟩
        · simp at hl
        · rw [List.concat_eq_append] at *
          have hl' : ini.length = n := by simp at hl; exact hl
          rw [List.range_succ, List.map_append]
          refine (ih ini hl' fun j v h => hj j v ?_).append (.cons ?_ .nil)
          · rw [List.getElem?_append_left (List.getElem?_eq_some_iff.mp h).1]; exact h
          · obtain ⟨t, e⟩ := hj n las (by rw [← hl']; simp)
            exact ⟨t, e⟩
    refine go _ _ (by rw [Array.length_toList, hacc.1]) fun j v h => ?_
    obtain ⟨t, e⟩ := hacc.2 j v (by rw [← Array.getElem?_toList]; exact h)
    exact ⟨t, by rw [e]; simp⟩
  refine ⟨.ref _, upd H s.heap.objs.size (.lst ((List.range (hi - lo).toNat).map fun i => V.int (lo + (i : Nat)))), I.laid (t' := tk) hk (Nat.le_refl _) ⟨?_, acc.toList, c', hv, by simpa using hS'⟩, rfl, q _ (I.hok.fresh (Nat.le_refl _))⟩
  rw [List.length_map, List.length_range]
  exact Nat.le_trans hsz (by decide)
theorem rvs_rng {r : Rg} {H : Hp} (lo : Int) (n : Nat) : RVs B r H (rngItems lo n) ((List.range n).map fun i => V.int (lo + (i : Nat))) := by
  have : (List.range n).map (fun i => V.int (lo + (i : Nat))) = ((List.range n).map fun i => lo + ((i : Nat) : Int)).map V.int := by rw [List.map_map]; rfl
  rw [this]
  have e2 : rngItems lo n = ((List.range n).map fun i => lo + ((i : Nat) : Int)).map D.int := by unfold rngItems; rw [List.map_map]; rfl
  rw [e2]
  exact rvs_intsB _
theorem cr_range1 : CallR X (.type "range") (fun vs H Q => ∃ j, vs = [V.int j] ∧ ∀ p, H p = none → Q (.ref p) (upd H p (.rng 0 j))) := by
  intro pins s σ H vs us Q I r h
  obtain ⟨j, rfl, q⟩ := h
  obtain ⟨u1, rfl, ri⟩ := vals1 r
  obtain ⟨t, rfl⟩ := ri
  refine call_range_1 ⟨.ref s.heap.objs.size, upd H s.heap.objs.size (.rng 0 j), I.laid (t' := s.toks + 2) (fun b o e => Heap.get?_push_of_some _ e) (Nat.le_refl _) ?_, rfl, q _ (I.hok.fresh (Nat.le_refl _))⟩
  exact ⟨_, t, _, Heap.get?_push_size _ rfl⟩
theorem c_lr (ok : XOk C B L G X sc) (hh : C.hot = false) {m : Bool} {p p2 p3 : Pos} {e0 : Expr} {es0 : List Expr} (hg : isGl sc "list" = true) (hb : hasBt C "list" = true) (hg2 : isGl sc "range" = true) (hb2 : hasBt C "range" = true) (hl : es0.length < 2) (hes : allArg (e0 :: es0) = true)
    (ha : PA X (e0 :: es0) (LEs B (e0 :: es0).length (wEs ir G))) : PE X (.Call (.Name "list" p) [.Call (.Name "range" p2) (e0 :: es0) [] p3] [] pos) (LE B (wE (.lr m ir) G)) := by
  have he : isArg e0 = true ∧ allArg es0 = true := by simpa [allArg] using hes
  have key : ∀ {σ : L2.St} {H : Hp} {Q : VK}, LE B (wE (.lr m ir) G) σ H Q → LEs B (e0 :: es0).length (wEs ir G) σ H fun vs H1 => (∃ j, vs = [V.int j] ∧ ∀ p, H1 p = none → ∃ a lo hi, V.ref p = .ref a ∧ upd H1 p (.rng 0 j) a = some (.rng lo hi) ∧ (-1000000 ≤ lo ∧ lo ≤ hi ∧ hi ≤ 1000000) ∧ ∀ l, upd H1 p (.rng 0 j) l = none → Q (.ref l) (upd (upd H1 p (.rng 0 j)) l (.lst ((List.range (hi - lo).toNat).map fun i => V.int (lo + (i : Nat)))))) ∨
      (∃ i j, vs = [V.int i, V.int j] ∧ ∀ p, H1 p = none → ∃ a lo hi, V.ref p = .ref a ∧ upd H1 p (.rng i j) a = some (.rng lo hi) ∧ (-1000000 ≤ lo ∧ lo ≤ hi ∧ hi ≤ 1000000) ∧ ∀ l, upd H1 p (.rng i j) l = none → Q (.ref l) (upd (upd H1 p (.rng i j)) l (.lst ((List.range (hi - lo).toNat).map fun i => V.int (lo + (i : Nat)))))) := by
    intro σ H Q q
    simp only [wE] at q
    refine LEs.mid (K := fun ds S Q => wLr m ds S Q) q fun ds S r H vs F hn hk hS hv hf => ?_
    unfold wLr at hk
    split at hk
    · obtain ⟨⟨h1, h2⟩, h3⟩ := hk
      obtain ⟨v, rfl, h4⟩ := hv.one
      cases h4
      refine .inl ⟨_, rfl, fun p np => ⟨p, 0, _, rfl, upd_same, ⟨by omega, h1, h2⟩, fun l nl => ?_⟩⟩
      have := (hf.trans (.new (o := .rng 0 _) np)).mk (hS.new np) h3 (rvs_rng 0 _) l nl
      rw [show ∀ j : Int, (j - 0).toNat = j.toNat by intro j; rw [Int.sub_zero]]
      exact this
    · obtain ⟨⟨h1, h2, h4⟩, h3⟩ := hk
      obtain ⟨v, u, rfl, h5, h6⟩ := hv.two
      cases h5; cases h6
      refine .inr ⟨_, _, rfl, fun p np => ⟨p, _, _, rfl, upd_same, ⟨h1, h2, h4⟩, fun l nl => ?_⟩⟩
      exact (hf.trans (.new (o := .rng _ _) np)).mk (hS.new np) h3 (rvs_rng _ _) l nl
    · exact hk.elim
  have hm : ∀ {x : Str}, hasBt C x = true → X.mg x = none := fun h => by rw [ok.hmg]; exact ok.bt _ h
  have cr := CallR.or (cr_range1 (X := X)) (cr_range2 (X := X))
  have pr := pe_callTy (p := p2) (pos := p3) cr (ok.glb hg2) (hm hb2) (by show bootBuiltins _ = _; decide +kernel) ha (by decide) (by decide) (star_cons he.1) (plain_args he.2)
  have pl := pe_callTy (p := p) (pos := pos) (cr_listR (ok.calm hh)) (ok.glb hg) (hm hb) (by show bootBuiltins _ = _; decide +kernel) (pa_cons pr pa_nil (star_cons rfl)) (by decide) (by decide) (star_cons rfl) rfl
  refine PE.imp pl fun σ H Q q => ?_
  have k := key q
  obtain ⟨r, S, e, F, hS, hO, hw, hf⟩ := k
  refine ⟨r, S, e, F, hS, hO, hw, fun ds S1 r1 H1 vs hn hk ex s1 hv => ?_⟩
  rcases hf ds S1 r1 H1 vs hn hk ex s1 hv with ⟨j, rfl, h⟩ | ⟨i, j, rfl, h⟩
  · exact .inl ⟨j, rfl, fun p np => by
      obtain ⟨a, lo, hi, e, h1, h2, h3⟩ := h p np
      exact ⟨a, lo, hi, by rw [e], h1, h2, h3⟩⟩
  · exact .inr ⟨i, j, rfl, fun p np => by
      obtain ⟨a, lo, hi, e, h1, h2, h3⟩ := h p np
      exact ⟨a, lo, hi, by rw [e], h1, h2, h3⟩⟩
/-! walks over several -/
theorem val_at {r : Rg} {H : Hp} {x : D} {v : V} {ds : List D} (hx : RV B r H x v) (h : valOf x = some ds) : ∃ t a vs, v = .ref a ∧ ∀ r2 H2, Car r H r2 H2 → SqK B.K t H2 a vs ∧ RVs B r2 H2 ds vs := by
  cases hx with
  | tup n hr hs => cases h; exact ⟨true, _, _, rfl, fun r2 H2 ex => ⟨.inl (ex.rd n hr).1, hs.car ex⟩⟩
  | tupK hr hs => cases h; exact ⟨true, _, _, rfl, fun r2 H2 ex => ⟨hr H2, hs.car ex⟩⟩
  | lst n hr hs => cases h; exact ⟨false, _, _, rfl, fun r2 H2 ex => ⟨.of (ex.keep _ _ hr n).1, hs.car ex⟩⟩
  | rol n hr hs => cases h; exact ⟨false, _, _, rfl, fun r2 H2 ex => ⟨.inl (ex.rd n hr).1, hs.car ex⟩⟩
  | rolK hr hs => cases h; exact ⟨false, _, _, rfl, fun r2 H2 ex => ⟨hr H2, hs.car ex⟩⟩
  | _ => cases h
theorem Car.refl {r : Rg} {H : Hp} : Car r H r H := Ex.refl.car
/-- a new tuple of items, at a walk's turn -/
theorem new_tup {r2 : Rg} {S2 : Store} {H2 : Hp} {T : Addr} {vs : List V} {ds : List D} (hS : RS B r2 S2 H2) (hT : H2 T = none) (hs : RVs B r2 H2 ds vs) : Ex r2 H2 r2 (upd H2 T (.tup vs)) ∧ RS B r2 S2 (upd H2 T (.tup vs)) ∧ RV B r2 (upd H2 T (.tup vs)) (.tup ds) (.ref T) :=
  ⟨.new hT, hS.new hT, .tup (hS.free hT) (.inl upd_same) (hs.mono (.new hT))⟩
theorem jok_z2 {K : PySem.W.Frag} {r : Rg} {t1 t2 : Bool} {a b : Addr} {xs ys : List D} {vs us : List V} (hK : K = B.K) (h1 : ∀ r2 H2, Car r H r2 H2 → SqK B.K t1 H2 a vs ∧ RVs B r2 H2 xs vs) (h2 : ∀ r2 H2, Car r H r2 H2 → SqK B.K t2 H2 b us ∧ RVs B r2 H2 ys us) :
    JOk B (Jz2 K t1 t2 a b) ⟨zip2D xs ys, none⟩ r H := by
  subst hK
  intro i S2 r2 H2 ex hS ok
  obtain ⟨q1, q2⟩ := h1 r2 H2 ex
  obtain ⟨p1, p2⟩ := h2 r2 H2 ex
  refine ⟨fun e => ⟨vs, us, q1, p1, by rw [← q2.length, ← p2.length, e]; simp [zip2D]⟩, fun d hd => ?_⟩
  have hd : ((xs.zip ys).map fun p => D.tup [p.1, p.2])[i]? = some d := hd
  rw [List.getElem?_map, Option.map_eq_some_iff] at hd
  obtain ⟨⟨x, y⟩, hz, rfl⟩ := hd
  obtain ⟨hx, hy⟩ := List.getElem?_zip_eq_some.mp hz
  obtain ⟨v, hv, rv⟩ := q2.get hx
  obtain ⟨u, hu, ru⟩ := p2.get hy
  refine ⟨⟨vs, us, v, u, q1, p1, hv, hu⟩, fun w H3 hw => ?_⟩
  obtain ⟨T, v', u', rfl, hT, rfl, e1, e2⟩ := hw
  have e1 := e1 vs q1
  have e2 := e2 us p1
  rw [hv] at e1; cases e1
  rw [hu] at e2; cases e2
  exact new_tup hS hT (.cons rv (.cons ru .nil))
theorem i_zip (ok : XOk C B L G X sc) {p tpos : Pos} {elts : List Expr} {kk : Nat} (hg : isGl sc "zip" = true) (hb : hasBt C "zip" = true) (h1 : isArg ea = true) (h2 : isArg eb = true) (ha : PE X ea (LE B (wE a G))) (hbb : PE X eb (LE B (wE b G))) :
    PI X (.Tuple elts kk tpos) (.Call (.Name "zip" p) [ea, eb] [] pos) (LI B (wIt (.zip a b) G)) := by
  have pa := pa_cons ha (pa_cons hbb pa_nil (star_cons h2)) (star_cons h1)
  have pz := pi_z2 (elts := elts) (kk := kk) (tpos := tpos) (p := p) (pos := pos) (ok.glb hg) (by rw [ok.hmg]; exact ok.bt _ hb) pa (star_cons h1) (by rw [star_cons h2]; rfl)
  refine ⟨fun pins s σ H R I ⟨r, S, e, F, hS, hO, hw, hf⟩ => pz.run pins s σ H R I ?_⟩
  simp only [wIt] at hw
  refine ⟨r, S, e, _, hS, hO, hw, fun x S1 r1 H1 v hk ex s1 hv => ⟨r1, S1, e, _, s1, hO.mono ex, hk, fun y S2 r2 H2 u hk2 ex2 s2 hu => ?_⟩⟩
  obtain ⟨xs, ys, e1, e2, hF⟩ := hk2
  obtain ⟨t1, a1, vs, rfl, g1⟩ := val_at (hv.mono ex2) e1
  obtain ⟨t2, a2, us, rfl, g2⟩ := val_at hu e2
  exact ⟨t1, t2, a1, a2, vs, us, rfl, by rw [ok.hK]; exact (g1 _ _ .refl).1, by rw [ok.hK]; exact (g2 _ _ .refl).1, hf _ S2 r2 H2 _ hF (ex.trans ex2) s2 (jok_z2 ok.hK g1 g2)⟩
theorem jok_z3 {K : PySem.W.Frag} {r : Rg} {t1 t2 t3 : Bool} {a b c : Addr} {xs ys zs : List D} {vs us ws : List V} (hK : K = B.K) (h1 : ∀ r2 H2, Car r H r2 H2 → SqK B.K t1 H2 a vs ∧ RVs B r2 H2 xs vs) (h2 : ∀ r2 H2, Car r H r2 H2 → SqK B.K t2 H2 b us ∧ RVs B r2 H2 ys us)
    (h3 : ∀ r2 H2, Car r H r2 H2 → SqK B.K t3 H2 c ws ∧ RVs B r2 H2 zs ws) : JOk B (Jz3 K t1 t2 t3 a b c) ⟨zip3D xs ys zs, none⟩ r H := by
  subst hK
  intro i S2 r2 H2 ex hS ok
  obtain ⟨q1, q2⟩ := h1 r2 H2 ex
  obtain ⟨p1, p2⟩ := h2 r2 H2 ex
  obtain ⟨o1, o2⟩ := h3 r2 H2 ex
  refine ⟨fun e => ⟨vs, us, ws, q1, p1, o1, by rw [← q2.length, ← p2.length, ← o2.length, e]; simp [zip3D, Nat.min_assoc]⟩, fun d hd => ?_⟩
  have hd : ((xs.zip (ys.zip zs)).map fun p => D.tup [p.1, p.2.1, p.2.2])[i]? = some d := hd
  rw [List.getElem?_map, Option.map_eq_some_iff] at hd
  obtain ⟨⟨x, y, z⟩, hz, rfl⟩ := hd
  obtain ⟨hx, hz⟩ := List.getElem?_zip_eq_some.mp hz
  obtain ⟨hy, hz⟩ := List.getElem?_zip_eq_some.mp hz
  obtain ⟨v, hv, rv⟩ := q2.get hx
  obtain ⟨u, hu, ru⟩ := p2.get hy
  obtain ⟨w, hw, rw_⟩ := o2.get hz
  refine ⟨⟨vs, us, ws, v, u, w, q1, p1, o1, hv, hu, hw⟩, fun w2 H3 hw2 => ?_⟩
  obtain ⟨T, v', u', w', rfl, hT, rfl, e1, e2, e3⟩ := hw2
  have e1 := e1 vs q1
  have e2 := e2 us p1
  have e3 := e3 ws o1
  rw [hv] at e1; cases e1
  rw [hu] at e2; cases e2
  rw [hw] at e3; cases e3
  exact new_tup hS hT (.cons rv (.cons ru (.cons rw_ .nil)))
theorem i_zip3 (ok : XOk C B L G X sc) {p tpos : Pos} {elts : List Expr} {kk : Nat} (hg : isGl sc "zip" = true) (hb : hasBt C "zip" = true) (h1 : isArg ea = true) (h2 : isArg eb = true) (h3 : isArg ec = true) (ha : PE X ea (LE B (wE a G))) (hbb : PE X eb (LE B (wE b G))) (hcc : PE X ec (LE B (wE c G))) :
    PI X (.Tuple elts kk tpos) (.Call (.Name "zip" p) [ea, eb, ec] [] pos) (LI B (wIt (.zip3 a b c) G)) := by
  have pa := pa_cons ha (pa_cons hbb (pa_cons hcc pa_nil (star_cons h3)) (star_cons h2)) (star_cons h1)
  have pz := pi_z3 (elts := elts) (kk := kk) (tpos := tpos) (p := p) (pos := pos) (ok.glb hg) (by rw [ok.hmg]; exact ok.bt _ hb) pa (star_cons h1) (by rw [star_cons h2, star_cons h3]; rfl)
  refine ⟨fun pins s σ H R I ⟨r, S, e, F, hS, hO, hw, hf⟩ => pz.run pins s σ H R I ?_⟩
  simp only [wIt] at hw
  refine ⟨r, S, e, _, hS, hO, hw, fun x S1 r1 H1 v hk ex s1 hv => ⟨r1, S1, e, _, s1, hO.mono ex, hk, fun y S2 r2 H2 u hk2 ex2 s2 hu => ⟨r2, S2, e, _, s2, (hO.mono ex).mono ex2, hk2, fun z S3 r3 H3 w hk3 ex3 s3 hw3 => ?_⟩⟩⟩
  obtain ⟨xs, ys, zs, e1, e2, e3, hF⟩ := hk3
  obtain ⟨t1, a1, vs, rfl, g1⟩ := val_at ((hv.mono ex2).mono ex3) e1
  obtain ⟨t2, a2, us, rfl, g2⟩ := val_at (hu.mono ex3) e2
  obtain ⟨t3, a3, ws, rfl, g3⟩ := val_at hw3 e3
  exact ⟨t1, t2, t3, a1, a2, a3, vs, us, ws, rfl, by rw [ok.hK]; exact (g1 _ _ .refl).1, by rw [ok.hK]; exact (g2 _ _ .refl).1, by rw [ok.hK]; exact (g3 _ _ .refl).1, hf _ S3 r3 H3 _ hF ((ex.trans ex2).trans ex3) s3 (jok_z3 ok.hK g1 g2 g3)⟩
theorem jok_en {K : PySem.W.Frag} {r : Rg} {t1 : Bool} {a : Addr} {xs : List D} {vs : List V} (hK : K = B.K) (h1 : ∀ r2 H2, Car r H r2 H2 → SqK B.K t1 H2 a vs ∧ RVs B r2 H2 xs vs) :
    JOk B (Jen K t1 a) ⟨enuD xs, none⟩ r H := by
  subst hK
  intro i S2 r2 H2 ex hS ok
  obtain ⟨q1, q2⟩ := h1 r2 H2 ex
  refine ⟨fun e => ⟨vs, q1, by rw [← q2.length, e]; simp [enuD]⟩, fun d hd => ?_⟩
  have hd : (xs.mapIdx fun i d => D.tup [.int i, d])[i]? = some d := hd
  rw [List.getElem?_mapIdx, Option.map_eq_some_iff] at hd
  obtain ⟨x, hx, rfl⟩ := hd
  obtain ⟨v, hv, rv⟩ := q2.get hx
  refine ⟨⟨vs, v, q1, hv⟩, fun w H3 hw => ?_⟩
  obtain ⟨T, v', rfl, hT, rfl, e1⟩ := hw
  have e1 := e1 vs q1
  rw [hv] at e1; cases e1
  exact new_tup hS hT (.cons (.int _) (.cons rv .nil))
theorem i_enu (ok : XOk C B L G X sc) {p tpos : Pos} {elts : List Expr} {kk : Nat} (hg : isGl sc "enumerate" = true) (hb : hasBt C "enumerate" = true) (h1 : isArg ea = true) (ha : PE X ea (LE B (wE a G))) :
    PI X (.Tuple elts kk tpos) (.Call (.Name "enumerate" p) [ea] [] pos) (LI B (wIt (.enu a) G)) := by
  have pa := pa_cons ha pa_nil (star_cons h1)
  have pz := pi_en (elts := elts) (kk := kk) (tpos := tpos) (p := p) (pos := pos) (ok.glb hg) (by rw [ok.hmg]; exact ok.bt _ hb) pa (by rw [star_cons h1]; rfl)
  refine ⟨fun pins s σ H R I ⟨r, S, e, F, hS, hO, hw, hf⟩ => pz.run pins s σ H R I ?_⟩
  simp only [wIt] at hw
  refine ⟨r, S, e, _, hS, hO, hw, fun x S1 r1 H1 v hk ex s1 hv => ?_⟩
  obtain ⟨xs, e1, hF⟩ := hk
  obtain ⟨t1, a1, vs, rfl, g1⟩ := val_at hv e1
  exact ⟨t1, a1, vs, rfl, by rw [ok.hK]; exact (g1 _ _ .refl).1, hf _ S1 r1 H1 _ hF ex s1 (jok_en ok.hK g1)⟩
/-! rows over any number -/
inductive RAll (B : Bk) (r : Rg) (H : Hp) : List (List D) → List (List V) → Prop
  | nil : RAll B r H [] []
  | cons {ds vs dss vss} : RVs B r H ds vs → RAll B r H dss vss → RAll B r H (ds :: dss) (vs :: vss)
theorem vals_at {r : Rg} {H : Hp} : ∀ {ds : List D} {vs : List V} {dss : List (List D)}, RVs B r H ds vs → ds.map valOf = dss.map some → ∃ (q : List (Bool × Nat)) (vss : List (List V)), q.length = ds.length ∧ vs = q.map (fun p => .ref p.2) ∧ ∀ r2 H2, Car r H r2 H2 → SqAll B.K H2 q vss ∧ RAll B r2 H2 dss vss
  | [], _, dss, .nil, e => by
    cases dss with
    | nil => exact ⟨[], [], rfl, rfl, fun _ _ _ => ⟨.nil, .nil⟩⟩
    | cons _ _ => simp at e
  | d :: ds, _, dss, .cons h hs, e => by
    cases dss with
    | nil => simp at e
    | cons xs dss =>
      simp only [List.map_cons, List.cons.injEq] at e
      obtain ⟨t, a, ws, rfl, g⟩ := val_at h e.1
      obtain ⟨q, vss, l1, rfl, g2⟩ := vals_at hs e.2
      exact ⟨(t, a) :: q, ws :: vss, by simp [l1], rfl, fun r2 H2 ex => ⟨.cons (g r2 H2 ex).1 (g2 r2 H2 ex).1, .cons (g r2 H2 ex).2 (g2 r2 H2 ex).2⟩⟩
theorem RAll.len {r : Rg} {H : Hp} {n : Nat} : ∀ {dss : List (List D)} {vss : List (List V)}, RAll B r H dss vss → (∀ xs ∈ dss, xs.length = n) → ∀ vs ∈ vss, vs.length = n
  | _, _, .nil, _, vs, h => by simp at h
  | _, _, .cons h1 h2, hl, vs, h => by
    rcases List.mem_cons.mp h with rfl | h
    · rw [← h1.length]; exact hl _ List.mem_cons_self
    · exact h2.len (fun xs hx => hl xs (List.mem_cons_of_mem _ hx)) vs h
theorem RAll.row {r : Rg} {H : Hp} {n i : Nat} (hi : i < n) : ∀ {dss : List (List D)} {vss : List (List V)}, RAll B r H dss vss → (∀ xs ∈ dss, xs.length = n) → RVs B r H (dss.filterMap (·[i]?)) (itemsV i vss)
  | _, _, .nil, _ => .nil
  | ds :: _, _, .cons h1 h2, hl => by
    have hd := hl ds List.mem_cons_self
    have e : ds[i]? = some (ds[i]'(by omega)) := List.getElem?_eq_getElem (by omega)
    obtain ⟨v, hv, rv⟩ := h1.get e
    have ih := h2.row hi fun xs hx => hl xs (List.mem_cons_of_mem _ hx)
    unfold itemsV at *
    rw [List.filterMap_cons, List.filterMap_cons, e, hv]
    exact .cons rv ih
theorem jok_zN {K : PySem.W.Frag} {r : Rg} {H : Hp} {q : List (Bool × Nat)} {dss : List (List D)} {vss : List (List V)} {n : Nat} (hK : K = B.K) (hne : dss ≠ []) (hl : ∀ xs ∈ dss, xs.length = n) (h1 : ∀ r2 H2, Car r H r2 H2 → SqAll B.K H2 q vss ∧ RAll B r2 H2 dss vss) :
    JOk B (JzN K q) ⟨zipND n dss, none⟩ r H := by
  subst hK
  intro i S2 r2 H2 ex hS ok
  obtain ⟨q1, q2⟩ := h1 r2 H2 ex
  have lv := q2.len hl
  refine ⟨fun e => ?_, fun d hd => ?_⟩
  · obtain rfl : i = n := by simpa [zipND] using e
    refine ⟨vss, q1, fun vs hv => Nat.le_of_eq (lv vs hv).symm, ?_⟩
    cases q2 with
    | nil => exact absurd rfl hne
    | cons _ _ => exact ⟨_, List.mem_cons_self, lv _ List.mem_cons_self⟩
  · have hd : ((List.range n).map fun i => D.tup (dss.filterMap (·[i]?)))[i]? = some d := hd
    have hi : i < n := by simpa using (List.getElem?_eq_some_iff.mp hd).1
    rw [List.getElem?_map, List.getElem?_range hi] at hd
    cases hd
    refine ⟨⟨vss, q1, fun vs hv => by have := lv vs hv; omega⟩, fun w H3 hw => ?_⟩
    obtain ⟨T, ws, rfl, hT, rfl, e1⟩ := hw
    have e1 := e1 vss q1
    have e2 : ws = itemsV i vss := by
      have : ∀ (l : List (List V)) (ws : List V), ws.map some = l.map (·[i]?) → ws = l.filterMap (·[i]?) := by
        intro l
        induction l with
        | nil => intro ws h; simpa using h
        | cons x l ih =>
          intro ws h
          cases ws with
          | nil => simp at h
          | cons w ws =>
            simp only [List.map_cons, List.cons.injEq] at h
            rw [List.filterMap_cons, ← h.1, ih ws h.2]
      exact this vss ws e1
    subst e2
    exact new_tup hS hT (q2.row hi hl)
theorem i_zipn2 {es : Es} (ok : XOk C B L G X sc) {p xp : Pos} {x : Str} (hg : isGl sc "zip" = true) (hb : hasBt C "zip" = true) (h1 : isArg ea = true) (h2 : isArg eb = true) (pa : PA X [ea, eb] (LEs B [ea, eb].length (wEs es G))) :
    PI X (.Name x xp) (.Call (.Name "zip" p) [ea, eb] [] pos) (LI B (wIt (.zipn es) G)) := by
  have pz := pi_zN2 (x := x) (xp := xp) (p := p) (pos := pos) (ok.glb hg) (by rw [ok.hmg]; exact ok.bt _ hb) pa (star_cons h1) (by rw [star_cons h2]; rfl)
  refine ⟨fun pins s σ H R I ⟨r, S, e, F, hS, hO, hw, hf⟩ => pz.run pins s σ H R I ?_⟩
  simp only [wIt] at hw
  refine ⟨r, S, e, _, hS, hO, hw, fun ds S1 r1 H1 vs hn hk ex s1 hv => ?_⟩
  obtain ⟨dss, n, e1, e2, hF⟩ := hk
  obtain ⟨q, vss, l1, rfl, g⟩ := vals_at hv e1
  have hn : ds.length = 2 := hn
  exact ⟨q, vss, by rw [l1, hn], rfl, by rw [ok.hK]; exact (g _ _ .refl).1, hf _ S1 r1 H1 _ hF ex s1 (jok_zN ok.hK (fun z => by subst z; simp at e1; subst e1; simp at hn) e2 g)⟩
theorem i_zipn4 {es : Es} {ed : Expr} (ok : XOk C B L G X sc) {p xp : Pos} {x : Str} (hg : isGl sc "zip" = true) (hb : hasBt C "zip" = true) (h1 : isArg ea = true) (h2 : isArg eb = true) (h3 : isArg ec = true) (h4 : isArg ed = true) (pa : PA X [ea, eb, ec, ed] (LEs B [ea, eb, ec, ed].length (wEs es G))) :
    PI X (.Name x xp) (.Call (.Name "zip" p) [ea, eb, ec, ed] [] pos) (LI B (wIt (.zipn es) G)) := by
  have pz := pi_zN4 (x := x) (xp := xp) (p := p) (pos := pos) (ok.glb hg) (by rw [ok.hmg]; exact ok.bt _ hb) pa (star_cons h1) (by rw [star_cons h2, star_cons h3, star_cons h4]; rfl)
  refine ⟨fun pins s σ H R I ⟨r, S, e, F, hS, hO, hw, hf⟩ => pz.run pins s σ H R I ?_⟩
  simp only [wIt] at hw
  refine ⟨r, S, e, _, hS, hO, hw, fun ds S1 r1 H1 vs hn hk ex s1 hv => ?_⟩
  obtain ⟨dss, n, e1, e2, hF⟩ := hk
  obtain ⟨q, vss, l1, rfl, g⟩ := vals_at hv e1
  have hn : ds.length = 4 := hn
  exact ⟨q, vss, by rw [l1, hn], rfl, by rw [ok.hK]; exact (g _ _ .refl).1, hf _ S1 r1 H1 _ hF ex s1 (jok_zN ok.hK (fun z => by subst z; simp at e1; subst e1; simp at hn) e2 g)⟩
/-- x(*y) -/
theorem c_callS (ok : XOk C B L G X sc) (hh : C.hot = false) {k : Nat} {x : Str} {ps : List Str} {pats : List (Nat × List Str)} {p sp : Pos} (hC : C.fn[k]? = some (x, ps, pats)) (hg : isGl sc x = true) (ha : PE X ea (LE B (wE a G))) :
    PE X (.Call (.Name x p) [.Starred ea sp] [] pos) (LE B (wE (.callS k ps.length a) G)) := by
  obtain ⟨ms, hG, f, fd, L', hL, hA, h3, h4'⟩ := ok.fn k x ps pats hC
  obtain ⟨h1, h2⟩ := hA.own (gl_dot hg)
  have h4 := h4'.mono (show L' ≤ L by omega)
  obtain ⟨g1, g2, g3⟩ := gl_of hg
  refine ⟨fun pins s σ H Q I h => ?_⟩
  obtain ⟨r, S, e, F, hS, hO, hw, hf⟩ := h
  simp only [wE] at hw
  have hm : X.mg x = some (.ref f) := by rw [ok.hmg]; exact h1
  have hk : PySem.W.keepIn X.K (.ref f) = true := by rw [ok.hK]; exact h2
  refine wpAny_Call_Name_kw (ld_glob I (ok.glb hg) hm ?_ g3)
  have body := ha.run pins s σ H (fun y H1 => ∃ r S e ds a vs F, y = V.ref a ∧ (SqT X.K H1 a vs ∨ SqL X.K H1 a vs) ∧ RS B r S H1 ∧ Ro B r H1 e σ ∧ RVs B r H1 ds vs ∧ ds.length = ps.length ∧ wCall G k ds e S F ∧ Fn B r H1 F Q) I
    ⟨r, S, e, _, hS, hO, hw, fun d S' r' H' v ⟨ds, q1, q2, q3⟩ ex s1 hv => by
      obtain ⟨t, a, vs, rfl, g⟩ := val_at hv q1
      obtain ⟨m1, m2⟩ := g _ _ .refl
      rw [← ok.hK] at m1
      refine ⟨r', S', e, ds, a, vs, F, rfl, ?_, s1, hO.mono ex, m2, q2, q3, hf.trans ex⟩
      cases t
      · exact .inr m1
      · exact .inl m1⟩
  refine PySem.W.callWith_S (h₀ := X.base) I.ok.mod.kin hk (thn body fun v s1 ⟨y, H1, I1, ry, r, S, e, ds, a, vs, F, ey, hxs, hS, hO, hd, hl, hw, hf⟩ => ?_) rfl
  subst ey
  obtain rfl : v = Value.ref a := ry
  refine StX.star_any I1 hxs fun us s2 I2 rv => ⟨I2.kIn, ?_⟩
  have hlen : us.length = ps.length := by rw [← rv.length, ← hd.length, hl]
  exact own_run (us := us) (bs := us) (kws := []) ok hh (x := x) hG h4 I2 hS hO hd (.of_eq (h3.pos us hlen)) hlen rv hw hf
end
end M

set_option Elab.async false
set_option maxRecDepth 100000
set_option maxHeartbeats 8000000
/-! M11: targets, comprehensions; the theorem for expressions. -/
namespace M
open PySem L2
open PyProof.Rows hiding St

section
variable {B : Bk1} {C : Ck} {G : Gam} {X : Cx} {sc : Scope} {L : Nat} {σ : L2.St} {H : Hp}
variable {a b c : E} {ea eb ec : Expr} {pos : Pos} {es : List Expr} {ir ks : Es}

theorem PG.imp {e : Expr} {t t' : TG} (h : PG X e t) (k : ∀ v σ H Q, t' v σ H Q → t v σ H Q) : PG X e t' := ⟨fun pins s σ H v u Q I r q => h.run pins s σ H v u Q I r (k _ _ _ _ q)⟩
theorem PGs.imp {e : List Expr} {t t' : TGs} (h : PGs X e t) (k : ∀ v σ H Q, t' v σ H Q → t v σ H Q) : PGs X e t' := ⟨fun pins s σ H v u Q I r q => h.run pins s σ H v u Q I r (k _ _ _ _ q)⟩
theorem Keeps.refl {ns : List Nat} : Keeps ns σ σ := ⟨rfl, fun _ _ => rfl⟩
theorem Keeps.set {i : Nat} {v : Option V} : Keeps [i] σ (σ.set i v) := ⟨by simp, fun j hj => by
  have : i ≠ j := fun e => hj (by simp [e])
  rw [List.getElem?_set_ne this]⟩
theorem Keeps.trans {m n : List Nat} {σ1 σ2 : L2.St} (x : Keeps m σ σ1) (y : Keeps n σ1 σ2) : Keeps (m ++ n) σ σ2 :=
  ⟨y.1.trans x.1, fun i hi => by
    have h1 : i ∉ m := fun q => hi (List.mem_append_left _ q)
    have h2 : i ∉ n := fun q => hi (List.mem_append_right _ q)
    rw [y.2 i h2, x.2 i h1]⟩
theorem g_nm (ok : XOk C B L G X sc) {i : Nat} {x : Str} {p : Pos} (h1 : C.N[i]? = some x) (h2 : isLoc sc x = true) : PG X (.Name x p) (LG B [i] (wTg (.nm i) G)) :=
  PG.imp (pg_name (i := i) (by rw [ok.hN]; exact ok.nd) (by rw [ok.hN]; exact h1) (ok.loc h2) (ok.fnOk h2)) fun v σ H Q ⟨r, S, e, d, F, hS, hO, hv, hw, hf⟩ => by
    simp only [wTg] at hw
    exact hf _ S r H _ hw .refl hS (hO.set hv) .set
theorem each_len {env : Env} : ∀ {es : List Expr}, allArg es = true → (assignEach es env).length = es.length ∧ (assignEach es env).findIdx? (·.1) = none
  | [], _ => ⟨rfl, rfl⟩
  | e :: es, h => by
    have h' : isArg e = true ∧ allArg es = true := by simpa [allArg] using h
    obtain ⟨i1, i2⟩ := each_len (env := env) h'.2
    have e1 : assignEach (e :: es) env = (false, assign e env) :: assignEach es env := by
      cases e <;> first | rfl | (simp [isArg] at h')
    rw [e1]
    exact ⟨by simp [i1], by rw [List.findIdx?_cons]; simp [i2]⟩
theorem each_cons {env : Env} {e : Expr} {es : List Expr} (h : isArg e = true) : (assignEach (e :: es) env).map (·.2) = assign e env :: (assignEach es env).map (·.2) := by
  cases e <;> first | rfl | (simp [isArg] at h)
theorem g_tp (ok : XOk C B L G X sc) (hh : C.hot = false) {ts : Tgs} {k : Nat} (hes : allArg es = true) (hn : tgsLen ts = es.length) (h : PGs X es (LGs B (tgsSl ts) (wTgs ts G))) : PG X (.Tuple es k pos) (LG B (tgSl (.tp ts)) (wTg (.tp ts) G)) :=
  PG.imp (pg_tup (n := es.length) (ok.calm hh) h (each_len hes).1 (each_len hes).2) fun v σ H Q ⟨r, S, e, d, F, hS, hO, hv, hw, hf⟩ => by
    simp only [wTg] at hw
    split at hw
    · obtain ⟨a, vs, rfl, h1, h2⟩ := tup_at hv
      exact ⟨a, vs, rfl, by rw [ok.hK]; exact h1, by rw [← h2.length, hw.1, hn], r, S, e, _, F, hS, hO, h2, hw.2, hf⟩
    · exact hw.elim
theorem gs_nil : PGs X [] (LGs B [] (wTgs .nil G)) :=
  PGs.imp pgs_nil fun vs σ H Q ⟨r, S, e, ds, F, hS, hO, hv, hw, hf⟩ => by
    simp only [wTgs] at hw
    obtain ⟨rfl, hw⟩ := hw
    cases hv
    exact ⟨rfl, hf e S r H σ hw .refl hS hO .refl⟩
theorem gs_cons {t : Tg} {ts : Tgs} {e : Expr} (hi : isArg e = true) (h1 : PG X e (LG B (tgSl t) (wTg t G))) (h2 : PGs X es (LGs B (tgsSl ts) (wTgs ts G))) : PGs X (e :: es) (LGs B (tgsSl (.cons t ts)) (wTgs (.cons t ts) G)) :=
  PGs.imp (pgs_cons h1 h2 (each_cons hi)) fun vs σ H Q ⟨r, S, e, ds, F, hS, hO, hv, hw, hf⟩ => by
    simp only [wTgs] at hw
    split at hw
    · rename_i d r'
      cases hv with
      | cons hd hr =>
        refine ⟨_, _, rfl, r, S, e, d, _, hS, hO, hd, hw, fun e1 S1 r1 H1 σ1 q1 q2 q3 q4 q5 => ⟨r1, S1, e1, r', F, q3, q4, hr.mono q2, q1, fun e2 S2 r2 H2 σ2 p1 p2 p3 p4 p5 => ?_⟩⟩
        exact hf e2 S2 r2 H2 σ2 p1 (q2.trans p2) p3 p4 (q5.trans p5)
    · exact hw.elim
theorem g_ix (ok : XOk C B L G X sc) (hi : isIx eb = true) (ha : PE X ea (LE B (wE a G))) (hb : PE X eb (LE B (wE b G))) : PG X (.Subscript ea eb pos) (LG B [] (wTg (.ix a b) G)) :=
  PG.imp (pg_sub ha hb (set_any (B := B) ok.un) (by intro v; cases eb <;> first | rfl | (simp [isIx] at hi))) fun v σ H Q ⟨r, S, e, d, F, hS, hO, hv, hw, hf⟩ => by
    simp only [wTg] at hw
    refine ⟨r, S, e, _, hS, hO, hw, fun x S1 r1 H1 o k1 e1 s1 hx => ⟨r1, S1, e, _, s1, hO.mono e1, k1, fun y S2 r2 H2 i k2 e2 s2 hy => ?_⟩⟩
    exact ⟨r2, S2, x, y, d, _, s2, hx.mono e2, hy, (hv.mono e1).mono e2, k2, fun S3 r3 H3 k3 e3 s3 => hf e S3 r3 H3 σ k3 ((e1.trans e2).trans e3) s3 (((hO.mono e1).mono e2).mono e3) .refl⟩

/-! comprehensions -/
theorem wipeD_len (e : Env') : ∀ vs, (wipeD e vs).length = e.length
  | [] => rfl
  | i :: vs => by unfold wipeD; rw [List.length_set, wipeD_len e vs]
theorem wipeD_some {e : Env'} {i : Nat} {d : D} : ∀ {vs : List Nat}, (wipeD e vs)[i]? = some (some d) → e[i]? = some (some d) ∧ i ∉ vs
  | [], h => ⟨h, by simp⟩
  | v :: vs, h => by
    unfold wipeD at h
    by_cases hi : v = i
    · subst hi
      by_cases hv : v < (wipeD e vs).length
      · rw [List.getElem?_set_self hv] at h; cases h
      · rw [List.getElem?_eq_none (by simpa using hv)] at h; cases h
    · rw [List.getElem?_set_ne hi] at h
      obtain ⟨h1, h2⟩ := wipeD_some h
      exact ⟨h1, by simp only [List.mem_cons, not_or]; exact ⟨fun e => hi e.symm, h2⟩⟩
theorem Ro.wipe {r : Rg} {e : Env'} (o : Ro B r H e σ) (vs : List Nat) : Ro B r H (wipeD e vs) (L2.wipe σ vs) := by
  refine ⟨o.ln, by rw [wipeD_len, L2.wipe_length, o.len], fun i d h => ?_⟩
  obtain ⟨h1, h2⟩ := wipeD_some h
  obtain ⟨v, h3, h4⟩ := o.at_ i d h1
  exact ⟨v, by rw [L2.wipe_out h2]; exact h3, h4⟩
theorem wipe_get {σ : L2.St} {i : Nat} : ∀ {vs : List Nat}, i ∈ vs → (L2.wipe σ vs)[i]? = if i < σ.length then some none else none
  | [], h => by cases h
  | v :: vs, h => by
    unfold L2.wipe
    by_cases e : v = i
    · subst e
      rw [List.getElem?_set_self']
      by_cases hl : v < σ.length
      · rw [if_pos hl, List.getElem?_eq_getElem (by rw [L2.wipe_length]; exact hl)]; rfl
      · rw [if_neg hl, List.getElem?_eq_none (by rw [L2.wipe_length]; omega)]; rfl
    · rw [List.getElem?_set_ne e]
      rcases List.mem_cons.mp h with z | z
      · exact absurd z.symm e
      · exact wipe_get z
theorem wipe_keeps {vs ns : List Nat} {σ' : L2.St} (k : Keeps ns (L2.wipe σ vs) σ') (h : ∀ i ∈ ns, i ∈ vs) : L2.wipe σ' vs = L2.wipe σ vs := by
  have hl : σ'.length = σ.length := by rw [k.1, L2.wipe_length]
  apply List.ext_getElem?
  intro i
  by_cases hi : i ∈ vs
  · rw [wipe_get hi, wipe_get hi, hl]
  · rw [L2.wipe_out hi, k.2 i (fun q => hi (h i q))]
def LTt (B : Bk1) (w : Env' → Store → (Bool → Store → Prop) → Prop) : TT := fun σ H Q => ∃ r S e F, RS B r S H ∧ Ro B r H e σ ∧ w e S F ∧ FnB B r H F Q
theorem relabel_rel {env : Env} {scope : Scope} {x : Str} {k : NameKind} (h : scope.names.lookup x = some k) : (relabel scope env).names.lookup x = some k ∨ (k = .free ∧ (relabel scope env).names.lookup x = some .cell) := by
  show (scope.names.map fun (n, k) => if (k == NameKind.free && env.scope.kind == .function && env.kindOf n == some .cell) then (n, NameKind.cell) else (n, k)).lookup x = _ ∨ (k = .free ∧ (scope.names.map fun (n, k) => if (k == NameKind.free && env.scope.kind == .function && env.kindOf n == some .cell) then (n, NameKind.cell) else (n, k)).lookup x = _)
  generalize scope.names = l at h
  induction l with
  | nil => simp at h
  | cons p r ih =>
    obtain ⟨n, k0⟩ := p
    rw [List.map_cons]
    cases hx : x == n with
    | true =>
      simp only [List.lookup_cons, hx] at h
      cases h
      by_cases hc : (k == NameKind.free && env.scope.kind == .function && env.kindOf n == some .cell) = true
      · simp only [Bool.and_eq_true, beq_iff_eq] at hc
        refine .inr ⟨hc.1.1, ?_⟩
        simp [hc.1.1, hc.1.2, hc.2, List.lookup_cons, hx]
      · refine .inl ?_
        simp only [hc, if_false, List.lookup_cons, hx, Bool.false_eq_true]
    | false =>
      simp only [List.lookup_cons, hx] at h
      have ih := ih h
      by_cases hc : (k0 == NameKind.free && env.scope.kind == .function && env.kindOf n == some .cell) = true
      · simp only [hc, if_true, List.lookup_cons, hx]; exact ih
      · simp only [hc, if_false, List.lookup_cons, hx, Bool.false_eq_true]; exact ih
/-- a comprehension's block -/
theorem XOk.blk (ok : XOk C B L G X sc) {scope : Scope} {own : List (Str × Nat)} (bo : BlkOk C.N sc scope own) (s : Shared) (H : Hp) (Cc : Addr) (cl : List (Str × Addr)) (fp : List Addr) : XOk C B L G.nox (X.blk s H scope (compEnvC scope cl Cc X.env) fp) scope where
  hK := ok.hK
  hmg := ok.hmg
  hN := ok.hN
  nd := ok.nd
  calm := ok.calm
  rel := fun x k h => relabel_rel h
  kd := bo.kind
  cel := fun x h => beq_iff_eq.mpr h
  room := ok.room
  un := ok.un
  gd := ok.gd
  gl := ok.gl
  bt := ok.bt
  im := ok.im
  fn := ok.fn
  tk := fun u s' ⟨_, _, _, _, _, _, _, _, _, _, _, _, _, _, _, _, _, _, _, _, _, _, _, z⟩ => z.elim
  xa := fun _ _ _ h => by cases h
  ec := ok.ec
  exm := ok.exm
  kd_ := ok.kd_
  cl := ok.cl
/-- what is left of a comprehension behind its source -/
def wLc (G : Gam) (e : Env') (m : Bool) (elt : E) (t : Tg) (c : Oe) (vs : List Nat) (Q : Post) (src : Src) (S1 : Store) : Prop :=
  src.items.length ≤ sizeLine ∧ ∃ W : Nat → List D → Store → Prop, W 0 [] S1 ∧ ∀ i acc S2, W i acc S2 →
      src.ok S2 ∧ i ≤ src.items.length ∧ (i = src.items.length → mkL m acc S2 Q) ∧
      ∀ x, src.items[i]? = some x → wTg t G.nox x (wipeD e vs) S2 fun e3 S3 => wT c G.nox e3 S3 fun b S4 => if b = true then wE elt G.nox e3 S4 fun d S5 => W (i + 1) (acc ++ [d]) S5 else W (i + 1) acc S4
/-- the walk of a comprehension -/
theorem lc_go {m : Bool} {elt : E} {t : Tg} {cd : Oe} {vs : List Nat} {r1 : Rg} {S1 : Store} {H1 : Hp} {e : Env'} {σ : L2.St} {src : Src} {J : L2.It} {F : Post} {Q : VK} (hsl : ∀ i ∈ tgSl t, i ∈ vs)
    (hO : Ro B r1 H1 e σ) (s1 : RS B r1 S1 H1) (hj : JOk B J src r1 H1) (hf : Fn B r1 H1 F Q) (hF : wLc G e m elt t cd vs F src S1) : ∀ Dd, H1 Dd = none → ∃ W : Nat → Nat → Hp → Prop, (∃ m, W 0 m (upd H1 Dd (.lst []))) ∧ ∀ i m H, W i m H →
      (J.stop i H ∧ Q (.ref Dd) H) ∨ (J.go i H ∧ ∃ Nx : Hp → Prop, (∀ H', Nx H' → ∃ m', m' < m ∧ W (i + 1) m' H') ∧ ∀ x H', J.yld i H x H' → LG B (tgSl t) (wTg t G.nox) x (L2.wipe σ vs) H' fun σ2 H2 => L2.wipe σ2 vs = L2.wipe σ vs ∧ LTt B (wT cd G.nox) σ2 H2 fun b H3 =>
        if b = true then LE B (wE elt G.nox) σ2 H3 fun y H4 => ∃ acc, H4 Dd = some (.lst acc) ∧ acc.length < sizeLine ∧ Nx (upd H4 Dd (.lst (acc ++ [y]))) else Nx H3) := by
  intro Dd hD
  obtain ⟨hz, W, w0, turn⟩ := hF
  have hDz : Dd ∉ r1.z := (Rg.not.mp (s1.free hD)).2
  refine ⟨fun i n Hc => ∃ r2 S2 acc vs2, Ex r1 H1 (r2.un r1.z) Hc ∧ r2.z = Dd :: r1.z ∧ RS B r2 S2 Hc ∧ Hc Dd = some (.lst vs2) ∧ RVs B r2 Hc acc vs2 ∧ W i acc S2 ∧ acc.length ≤ i ∧ n = src.items.length - i ∧ Dd ∉ r2.c,
    ⟨_, r1.mk' Dd, S1, [], [], .zstart hD, rfl, s1.zin hD, upd_same, .nil, w0, Nat.le_refl _, rfl, s1.freeC hD⟩, ?_⟩
  rintro i n Hc ⟨r2, S2, acc, vs2, x2, z2, s2, hDc, hacc, w2, hlen, rfl, hDn⟩
  obtain ⟨hok, hle, hend, hstep⟩ := turn i acc S2 w2
  have hDr : Dd ∈ r2.z := by rw [z2]; exact List.mem_cons_self
  have car : Car r1 H1 r2 Hc := ⟨fun n a h => x2.get h, fun a o h na => by
    have nc := (Rg.not.mp na).1
    refine ⟨x2.keep a o h nc, Rg.not.mpr ⟨x2.outC h nc, fun hz => ?_⟩⟩
    rw [z2] at hz
    rcases List.mem_cons.mp hz with e1 | e1
    · rw [e1, hD] at h; cases h
    · exact (Rg.not.mp na).2 e1⟩
  obtain ⟨hstop, hgo⟩ := hj i S2 r2 Hc car s2 hok
  by_cases hlt : i < src.items.length
  · obtain ⟨d, hd⟩ : ∃ d, src.items[i]? = some d := ⟨_, List.getElem?_eq_getElem hlt⟩
    obtain ⟨go, hy⟩ := hgo d hd
    refine .inr ⟨go, fun H' => ∃ r2 S2 acc vs2, Ex r1 H1 (r2.un r1.z) H' ∧ r2.z = Dd :: r1.z ∧ RS B r2 S2 H' ∧ H' Dd = some (.lst vs2) ∧ RVs B r2 H' acc vs2 ∧ W (i + 1) acc S2 ∧ acc.length ≤ i + 1 ∧ Dd ∉ r2.c, fun H' ⟨r2, S2, acc, vs2, k1, k2, k3, k4, k5, k6, k7, k8⟩ => ⟨src.items.length - (i + 1), by omega, r2, S2, acc, vs2, k1, k2, k3, k4, k5, k6, k7, rfl, k8⟩, fun x H3 hyl => ?_⟩
    obtain ⟨y1, y2, y3⟩ := hy x H3 hyl
    have hO2 : Ro B r2 H3 (wipeD e vs) (L2.wipe σ vs) := ((hO.go car (hO.ln.go x2.pre (fun a ha => by rw [z2]; exact List.mem_cons_of_mem _ ha) x2.keep x2.there)).mono y1).wipe vs
    refine ⟨r2, S2, _, d, _, y2, hO2, y3, hstep d hd, fun e3 S3 r3 H4 σ3 k1 k2 k3 k4 k5 => ⟨wipe_keeps k5 hsl, ?_⟩⟩
    refine ⟨r3, S3, e3, _, k3, k4, k1, fun tb S4 r4 H5 p1 p2 p3 => ?_⟩
    have exA : Ex r2 Hc r4 H5 := (y1.trans k2).trans p2
    have hz4 : r4.z = Dd :: r1.z := exA.zz.trans z2
    cases tb with
    | false =>
      simp only [Bool.false_eq_true, if_false] at p1 ⊢
      exact ⟨r4, S4, acc, vs2, x2.zgo exA, hz4, p3, exA.keep _ _ hDc hDn, hacc.mono exA, p1, by omega, exA.outC hDc hDn⟩
    | true =>
      simp only [if_true] at p1 ⊢
      refine ⟨r4, S4, e3, _, p3, k4.mono p2, p1, fun y S5 r5 H6 yv q1 q2 q3 q4 => ?_⟩
      have exB : Ex r2 Hc r5 H6 := exA.trans q2
      have hz5 : r5.z = Dd :: r1.z := exB.zz.trans z2
      have hD5 : Dd ∉ r5.c := exB.outC hDc hDn
      have hDz5 : Dd ∈ r5.z := by rw [hz5]; exact List.mem_cons_self
      refine ⟨vs2, exB.keep _ _ hDc hDn, by rw [← hacc.length]; omega, r5, S5, acc ++ [y], _, x2.zstep hD exB hD5, hz5, q3.zput hDz5, upd_same, ((hacc.mono exB).append (.cons q4 .nil)).car (.zput hDz5), q1, by simp; omega, hD5⟩
  · have hi' : i = src.items.length := by omega
    have fin := hend hi'
    refine .inl ⟨hstop hi', ?_⟩
    have hsub : ∀ a, a ∈ r1.z → a ∈ r2.z := fun a ha => by rw [z2]; exact List.mem_cons_of_mem _ ha
    have h2 : Dd ∉ r2.un r1.z := Rg.not.mpr ⟨hDn, hDz⟩
    cases m with
    | false => exact hf _ S2 (r2.un r1.z) Hc _ fin x2 (s2.zout hsub) (.lst h2 hDc (hacc.car (.zout hsub)))
    | true =>
      refine hf _ _ ((r2.un r1.z).add Dd) Hc _ fin (x2.seal hD) (s2.seal hsub hDr hDn hDz hDc hacc) (.ref ?_)
      show (r2.c ++ [Dd])[S2.length]? = some Dd
      rw [← s2.len]; simp
theorem c_lc (ok : XOk C B L G X sc) {m : Bool} {elt : E} {t : Tg} {it : M.It} {cd : Oe} {vs : List Nat} {te tt ti : Expr} {ifs : List Expr} {scope : Scope} (hb : blkC C.N sc scope (vs.map fun i => (C.N.getD i "", i)) = true) (hset : isSet ti = false) (hsl : ∀ i ∈ tgSl t, i ∈ vs)
    (hi : PI X tt ti (LI B (wIt it G)))
    (hg : ∀ (s : Shared) (H : Hp) (C : Addr) (cl : List (Str × Addr)) (fp : List Addr), PG (X.blk s H scope (compEnvC scope cl C X.env) fp) tt (LG B (tgSl t) (wTg t G.nox)))
    (ht : ∀ (s : Shared) (H : Hp) (C : Addr) (cl : List (Str × Addr)) (fp : List Addr), PTs (X.blk s H scope (compEnvC scope cl C X.env) fp) ifs (LTt B (wT cd G.nox)))
    (he : ∀ (s : Shared) (H : Hp) (C : Addr) (cl : List (Str × Addr)) (fp : List Addr), PE (X.blk s H scope (compEnvC scope cl C X.env) fp) te (LE B (wE elt G.nox))) {σ : L2.St} {H : Hp} {Q : VK}
    (q : LE B (wE (.lc m elt t it cd vs) G) σ H Q) : tLc (LI B (wIt it G)) (LG B (tgSl t) (wTg t G.nox)) (LTt B (wT cd G.nox)) (LE B (wE elt G.nox)) vs σ H Q := by
  obtain ⟨r, S, e, F, hS, hO, hw, hf⟩ := q
  simp only [wE] at hw
  exact ⟨r, S, e, _, hS, hO, hw, fun src S1 r1 H1 J hF ex s1 hj => lc_go hsl (hO.mono ex) s1 hj (hf.trans ex) hF⟩
end
end M

set_option Elab.async false
set_option maxRecDepth 100000
set_option maxHeartbeats 8000000
/-! MX: caught exceptions: their fields, their classes. -/
namespace M
open PySem L2
open PyProof.Rows hiding St

section
open PySem.W
variable {prog : Program} {w : World} {A : Around} {E : Value → Shared → Prop} {s : Shared} {K : Frag} {x D : Addr} {ox od : Obj}
/-- e.__class__ of an exception that has its dict -/
theorem mx_class {Q : Option Value → Shared → Prop} (T : L2.ExcC K D) (X : K.In s.heap) (I : PySem.W.InstAt s.heap x ox D (some od)) (h : Q (some (.ref D)) { s with toks := s.toks + 1 }) :
    wpAny (model prog w) A (getAttr? (.ref x) "__class__") Q E s := by
  have hf : findObj K D (some od) "__class__" = some (.bind (.builtin "getset_descriptor.__get__") (.builtin "object.__class__")) :=
    findObj_data (by obtain ⟨cd, hc, _⟩ := any_some T.hd; rw [hc]; rfl) T.ha T.hn T.ht
  obtain ⟨hp, g, d, t, os⟩ := s
  have L0 := I.type (M := model prog w)
  have L1 := looks_findIn (M := model prog w) X T.hg
  have L2 := looks_findIn (M := model prog w) X T.hk
  have L3 := looks_find (M := model prog w) X I hf
  have sub : Looks (model prog w) hp (isInstance (.ref x) (.type "BaseException")) true := L0.andThen (looks_subIn X T.hs)
  have n0 : (false && onTheHeap (Value.builtin "BaseException.__getattribute__")) = false := rfl
  have n1 : (onTheHeap (Value.ref D) && Value.builtin "BaseException.__getattribute__" == Value.builtin "object.__getattribute__") = false := by
    rw [show (Value.builtin "BaseException.__getattribute__" == Value.builtin "object.__getattribute__") = false from by decide +kernel]; rfl
  unfold getAttr? getAttrBy? getAttrBy
  refine wpAny_bind (wpAny_mkText (wpAny_bind (wpAny_attempt (wpAny_holding (wpAny_bind (L0.at (wpAny_bind (L1.at ?_))))))))
  show wpAny _ _ (if (onTheHeap (Value.ref D) && Value.builtin "BaseException.__getattribute__" == Value.builtin "object.__getattribute__") = true then _ else _) _ _ _
  rw [n1, if_neg Bool.false_ne_true]
  unfold getAttrByItsOwn hookBefore
  refine wpAny_bind ?_
  rw [if_pos (show onTheHeap (Value.ref D) = true from rfl)]
  refine L2.at ?_
  refine wpAny_bind (wpAny_attempt (wpAny_holding ?_))
  unfold callGetattribute
  rw [n0, if_neg Bool.false_ne_true]
  unfold boundAndCalled
  rw [PySem.F.excAttr_ValueError.ga.bind (.ref x)]
  refine wpAny_bind (wpAny_pure ?_)
  show wpAny _ _ (call (.builtin "BaseException.__getattribute__") [.ref x, .str "__class__" t]) _ _ _
  refine wpAny_call (codeAny_call_builtin PySem.F.excAttr_ValueError.ga.plain PySem.F.entry_bexc_ga ?_)
  refine @check_slot (model prog w) _ _ ⟨hp, g, d, t + 1, os⟩ "BaseException.__getattribute__" "BaseException" "__getattribute__" (.ref x) [.str "__class__" t] [] _ (by decide +kernel) (by decide +kernel) sub (PySem.F.args_bexc_ga (.ref x) (.str "__class__" t)) ?_
  unfold Builtin.«object.__getattribute__»
  refine wpAny_bind (wpAny_of_eq (a := ((Value.ref x : Value), [Value.str "__class__" t])) (by first | rfl | (simp only [slotArgs]; rfl)) ?_)
  refine wpAny_bind (wpAny_pure (wpAny_bind (L0.at (wpAny_bind (L3.at ?_)))))
  show wpAny _ _ (holding [Value.builtin "object.__class__"] (call (.builtin "getset_descriptor.__get__") [.builtin "object.__class__", .ref x, .ref D]) >>= ret) _ _ _
  refine wpAny_bind (wpAny_holding (wpAny_call (class_get (s := ⟨hp, g, d, t + 1, os⟩) (ox := ox) (od := some od) X I T.hm ?_)))
  refine wpAny_pure ?_
  show wpAny _ _ (handedOut (.ref D)) _ _ _
  rw [handedOut_of (v := .ref D) rfl]
  first
    | exact wpAny_pure (wpAny_pure h)
    | exact wpAny_pure h
    | exact wpAny_pure (wpAny_bind (wpAny_pure (wpAny_pure h)))
theorem mx_kitx (T : L2.ExcC K D) : KitX K (.ref x) (.ref D) (fun h => ∃ od, PySem.W.InstAt h x ox D (some od)) where
  ty := fun _ _ _ ⟨_, I⟩ => I.type
  it := fun _ _ X _ => by
    obtain ⟨cdD, hcD, _⟩ := any_some T.hd
    unfold clsIn at hcD
    split at hcD
    · rename_i c' d' cd' sl' ho
      intro A' Q' E' s' k q
      unfold isType loadHead
      exact wpAny_bind (wpAny_loadPart (k _ _ (X _ _ ho)) (wpAny_pure q))
    · cases hcD
  ne := fun h tp dd its n sl X htp => by
    obtain ⟨cdD, hcD, _⟩ := any_some T.hd
    refine Bool.eq_false_iff.mpr fun q => ?_
    have e : D = tp := Value.ref.inj (beq_iff_eq.mp q)
    subst e
    unfold clsIn at hcD
    split at hcD
    · rename_i c' d' cd' sl' ho
      have z := (X _ _ ho).symm.trans htp
      cases z
    · cases hcD
  ca := fun X ⟨_, I⟩ k => mx_class T X I k
end

section
variable {B : Bk1} {C : Ck} {G : Gam} {X : Cx} {sc : Scope} {L : Nat} {σ : L2.St} {H : Hp}
variable {a : E} {ea : Expr} {pos : Pos}
/-- the exception of a suite, and its dict, on the heap -/
theorem inst_at {a dx Cc : Addr} {oe : Obj} {pn pins : List (Addr × Obj)} {s : Shared} {fs : List (Str × V)} (I : Inv (X.suite a ((a, oe) :: pn)) pins σ H s) (hz : Zc (.ref Cc) (some dx) oe) (hf : ∃ vs, oe.data = .fields vs) (hx : H dx = some (.xd fs)) :
    ∃ od, PySem.W.InstAt s.heap a oe Cc (some od) := by
  obtain ⟨ha, _⟩ := I.pin (a, oe) (List.mem_append_left _ List.mem_cons_self)
  obtain ⟨vs, hd⟩ := hf
  have h0 : ObjOk X.prog X.w H s.heap dx (.xd fs) := I.hok dx _ hx
  obtain ⟨mA, hns, hr⟩ := h0
  obtain ⟨od, ho, hl⟩ := lookIn_ns hns
  exact ⟨od, ⟨ha, hz.1, by unfold PySem.W.notCls; rw [hd] <;> rfl, by rw [hz.2]; exact ho⟩⟩
/-- isinstance(e, c) -/
theorem cr_isE {a dx Cc : Addr} {oe : Obj} {pn : List (Addr × Obj)} (T : L2.ExcC X.K Cc) (hz : Zc (.ref Cc) (some dx) oe) (hf : ∃ vs, oe.data = .fields vs) :
    CallR (X.suite a ((a, oe) :: pn)) (.builtin "isinstance") (fun xs H Q => ∃ (Cx : Addr) (b : Bool) (fs : List (Str × V)), xs = [.ref a, .ref Cx] ∧ H dx = some (.xd fs) ∧ PySem.W.kitOne X.K (.ref Cc) (.ref Cx) = some b ∧ Q (.bl b) H) := by
  intro pins s σ H xs us Q I r h
  obtain ⟨Cx, b, fs, rfl, hx, e, q⟩ := h
  obtain ⟨u1, u2, rfl, r1, r2⟩ := vals2 r
  cases (show u1 = Value.ref a from r1)
  cases (show u2 = Value.ref Cx from r2)
  exact PySem.W.kia_one (mx_kitx T) I.kIn (inst_at I hz hf hx) e (fun z => nomatch z) fun tk => ⟨.bl b, H, I.kept (t' := tk) fun _ _ z => z, rfl, q⟩
theorem kitAny2 {K : PySem.W.Frag} {t c d : Value} {b1 b2 : Bool} (h1 : PySem.W.kitOne K t c = some b1) (h2 : PySem.W.kitOne K t d = some b2) : PySem.W.kitAny K t [c, d] = some (b1 || b2) := by
  unfold PySem.W.kitAny
  rw [h1]
  cases b1 with
  | true => rfl
  | false =>
    show PySem.W.kitAny K t [d] = _
    unfold PySem.W.kitAny
    rw [h2]
    cases b2 <;> rfl
/-- isinstance(e, (c, d)) -/
theorem cr_isE2 {a dx Cc : Addr} {oe : Obj} {pn : List (Addr × Obj)} (T : L2.ExcC X.K Cc) (hz : Zc (.ref Cc) (some dx) oe) (hf : ∃ vs, oe.data = .fields vs) :
    CallR (X.suite a ((a, oe) :: pn)) (.builtin "isinstance") (fun xs H Q => ∃ (tp Cx Cy : Addr) (b : Bool) (fs : List (Str × V)), xs = [.ref a, .ref tp] ∧ H tp = some (.tup [.ref Cx, .ref Cy]) ∧ H dx = some (.xd fs) ∧
      PySem.W.kitAny X.K (.ref Cc) [.ref Cx, .ref Cy] = some b ∧ Q (.bl b) H) := by
  intro pins s σ H xs us Q I r h
  obtain ⟨tp, Cx, Cy, b, fs, rfl, hT, hx, e, q⟩ := h
  obtain ⟨u1, u2, rfl, r1, r2⟩ := vals2 r
  cases (show u1 = Value.ref a from r1)
  cases (show u2 = Value.ref tp from r2)
  obtain ⟨_, its, rv, o, h1, h2, n, h3⟩ := (show ObjOk X.prog X.w H s.heap tp (.tup [.ref Cx, .ref Cy]) from I.hok tp _ hT)
  obtain ⟨w1, w2, rfl, q1, q2⟩ := vals2 rv
  cases (show w1 = Value.ref Cx from q1)
  cases (show w2 = Value.ref Cy from q2)
  obtain ⟨oc, od, dt, sl⟩ := o
  simp only at h2 h3
  subst h2 h3
  exact PySem.W.kia_tup (mx_kitx T) I.kIn (inst_at I hz hf hx) h1 e (fun z => nomatch z) fun tk => ⟨.bl b, H, I.kept (t' := tk) fun _ _ z => z, rfl, q⟩
theorem lookup_zip {ns : List Str} {f : Str} : ∀ {ds : List D} {vs : List V} {r : Rg} {d : D} {B : Bk}, RVs B r H ds vs → (ns.zip ds).lookup f = some d → ∃ v, (ns.zip vs).lookup f = some v ∧ RV B r H d v := by
  induction ns with
  | nil => intro ds vs r d B _ h; simp at h
  | cons n ns ih =>
    intro ds vs r d B hr h
    cases hr with
    | nil => simp at h
    | cons h1 h2 =>
      rw [List.zip_cons_cons, List.lookup_cons] at h ⊢
      by_cases e : (f == n) = true
      · simp only [e] at h ⊢
        cases h
        exact ⟨_, rfl, h1⟩
      · simp only [Bool.not_eq_true] at e
        simp only [e] at h ⊢
        exact ih h2 h
theorem clsAt_eq {B : Bk} {c : Str} {C D : Addr} (h1 : clsAt B c C) (h2 : clsAt B c D) : C = D := by
  have e := h1.symm.trans h2
  cases e; rfl
theorem c_xat (ok : XOk C B L G X sc) {f : Str} (hf : isXf f = true) (hr : isRecv ea = true) (ha : PE X ea (LE B (wE a G))) : PE X (.Attribute ea f pos) (LE B (wE (.xat a f) G)) := by
  cases hx : G.xa with
  | none =>
    refine ⟨fun pins s σ H Q I ⟨r, S, e, F, hS, hO, hw, hff⟩ => attr_of (base_of hr) (thn (ha.run pins s σ H (fun _ _ => False) I ⟨r, S, e, _, hS, hO, by simpa only [wE] using hw, fun d S' r' H' v h1 _ _ _ => ?_⟩) fun u s1 hh => ?_)⟩
    · obtain ⟨_, _, _, _, _, _, _, h, _⟩ := h1
      rw [hx] at h; cases h
    · obtain ⟨_, _, _, _, z⟩ := hh
      exact z.elim
  | some p =>
    obtain ⟨a0, dx0, c0⟩ := p
    obtain ⟨X0, oe, pn, Cc, e1, hcl, hz, hv, T⟩ := ok.xa _ _ _ hx
    subst e1
    refine PE.imp (pe_xf (X := X0) T.xf (T.fl f hf) hz hv ha (base_of hr)) fun σ H Q ⟨r, S, e, F, hS, hO, hw, hff⟩ => ?_
    simp only [wE] at hw
    refine ⟨r, S, e, _, hS, hO, hw, fun x S1 r1 H1 v hk ex s1 hvv => ?_⟩
    obtain ⟨ad, dx, c, ns, ds, d, rfl, h2, h3, h4⟩ := hk
    rw [hx] at h2; cases h2
    cases hvv with
    | exc k1 k2 k3 k4 k5 =>
      obtain ⟨v, q1, q2⟩ := lookup_zip k5 h3
      exact ⟨rfl, rfl, _, _, v, rfl, k4, q1, hff _ S1 r1 H1 _ h4 ex s1 q2⟩
/-- a class's name -/
theorem pe_cls (ok : XOk C B L G X sc) {y : Str} {p : Pos} {Cy : Addr} (hg : isGl sc y = true) (hm : B.mg y = some (.ref Cy)) : PE X (.Name y p) (tC (.ref Cy)) :=
  pe_glob (ok.glb hg) (by rw [ok.hmg]; exact hm) (show RelV (.ref Cy) (.ref Cy) from rfl) (gl_of hg).2.2
theorem tb_at {y : Str} {tb : List (Str × Bool)} {c : Str} {b : Bool} (h : tbOk C y tb = true) (hl : tb.lookup c = some b) : C.exm.contains (c, y, b) = true := by
  unfold tbOk at h
  rw [Bool.and_eq_true, List.all_eq_true] at h
  obtain ⟨h0, h⟩ := h
  have : (c, b) ∈ tb := by
    clear h h0
    induction tb with
    | nil => simp at hl
    | cons p r ih =>
      obtain ⟨n, v⟩ := p
      rw [List.lookup_cons] at hl
      split at hl
      · rename_i e
        cases hl
        rw [beq_iff_eq] at e
        subst e
        exact List.mem_cons_self
      · exact List.mem_cons_of_mem _ (ih hl)
  exact h _ this
theorem tb_cls (ok : XOk C B L G X sc) {y : Str} {tb : List (Str × Bool)} (h : tbOk C y tb = true) : ∃ Cy, B.mg y = some (.ref Cy) := by
  cases tb with
  | nil => cases h
  | cons p r =>
    obtain ⟨c, b⟩ := p
    unfold tbOk at h
    rw [Bool.and_eq_true, List.all_eq_true] at h
    obtain ⟨_, Cx, _, h2, _⟩ := ok.exm c y b (h.2 (c, b) List.mem_cons_self)
    exact ⟨Cx, h2⟩
theorem tb_kit (ok : XOk C B L G X sc) {y c : Str} {tb : List (Str × Bool)} {b : Bool} {Cc Cy : Addr} (h : tbOk C y tb = true) (hl : tb.lookup c = some b) (hc : clsAt B c Cc) (hy : B.mg y = some (.ref Cy)) : PySem.W.kitOne B.K (.ref Cc) (.ref Cy) = some b := by
  obtain ⟨Cc', Cx, h1, h2, _, h4, _⟩ := ok.exm c y b (tb_at h hl)
  have e1 := clsAt_eq hc h1
  have e2 := clsAt_eq hy h2
  subst e1 e2
  exact h4
theorem c_xis (ok : XOk C B L G X sc) {p p2 : Pos} {y : Str} {tb : List (Str × Bool)} (hg : isGl sc "isinstance" = true) (hb : hasBt C "isinstance" = true) (hg2 : isGl sc y = true) (ht : tbOk C y tb = true) (hes : isArg ea = true) (ha : PE X ea (LE B (wE a G))) :
    PE X (.Call (.Name "isinstance" p) [ea, .Name y p2] [] pos) (LE B (wE (.xis a tb) G)) := by
  obtain ⟨Cy, hy⟩ := tb_cls ok ht
  have pt := pe_cls (p := p2) ok hg2 hy
  have pa := pa_cons ha (pa_cons pt pa_nil (star_cons rfl)) (star_cons hes)
  cases hx : G.xa with
  | none =>
    refine PE.imp (pe_callB (call_isi (X := X)) (ok.glb hg) (by rw [ok.hmg]; exact ok.bt _ hb) (by show bootBuiltins _ = _; decide +kernel) pa (by decide) (by decide) (star_cons hes) rfl) fun σ H Q ⟨r, S, e, F, hS, hO, hw, hf⟩ => ?_
    simp only [wE] at hw
    refine ⟨r, S, e, _, hS, hO, hw, fun x S1 r1 H1 v hk ex s1 hv => ?_⟩
    obtain ⟨_, _, _, _, _, _, _, h, _⟩ := hk
    rw [hx] at h; cases h
  | some p0 =>
    obtain ⟨a0, dx0, c0⟩ := p0
    obtain ⟨X0, oe, pn, Cc, e1, hcl, hz, hv, T⟩ := ok.xa _ _ _ hx
    have hK := ok.hK
    subst e1
    refine PE.imp (pe_callB (cr_isE (X := X0) T.ie hz hv) (ok.glb hg) (by rw [ok.hmg]; exact ok.bt _ hb) (by show bootBuiltins _ = _; decide +kernel) pa (by decide) (by decide) (star_cons hes) rfl) fun σ H Q ⟨r, S, e, F, hS, hO, hw, hf⟩ => ?_
    simp only [wE] at hw
    refine ⟨r, S, e, _, hS, hO, hw, fun x S1 r1 H1 v hk ex s1 hvv => ?_⟩
    obtain ⟨ad, dx, c, ns, ds, b, rfl, h2, h3, h4⟩ := hk
    rw [hx] at h2; cases h2
    cases hvv with
    | exc k1 k2 k3 k4 k5 =>
      exact ⟨Cy, b, _, rfl, k4, by rw [show X0.K = B.K from hK]; exact tb_kit ok ht h3 hcl hy, hf _ S1 r1 H1 _ h4 ex s1 (.bl _)⟩
theorem anyTb_2 {c : Str} {t1 t2 : List (Str × Bool)} {b : Bool} (h : anyTb c [t1, t2] = some b) : (t1.lookup c = some true ∧ b = true) ∨ (t1.lookup c = some false ∧ t2.lookup c = some b) := by
  unfold anyTb at h
  cases e : t1.lookup c with
  | none => rw [e] at h; cases h
  | some b1 =>
    rw [e] at h
    cases b1 with
    | true => cases h; exact .inl ⟨rfl, rfl⟩
    | false =>
      unfold anyTb at h
      cases e2 : t2.lookup c with
      | none => simp [e2] at h
      | some b2 =>
        simp only [e2] at h
        cases b2 with
        | true => cases h; exact .inr ⟨rfl, rfl⟩
        | false =>
          unfold anyTb at h
          cases h; exact .inr ⟨rfl, rfl⟩
theorem kitAny_t {K : PySem.W.Frag} {t c d : Value} (h1 : PySem.W.kitOne K t c = some true) : PySem.W.kitAny K t [c, d] = some true := by
  unfold PySem.W.kitAny
  rw [h1]
theorem c_xit (ok : XOk C B L G X sc) {p p2 p3 p4 : Pos} {k : Nat} {y z : Str} {t1 t2 : List (Str × Bool)} (hg : isGl sc "isinstance" = true) (hb : hasBt C "isinstance" = true) (hg2 : isGl sc y = true) (hg3 : isGl sc z = true) (ht : tbOk C y t1 = true) (ht2 : tbOk C z t2 = true) (hes : isArg ea = true) (ha : PE X ea (LE B (wE a G))) :
    PE X (.Call (.Name "isinstance" p) [ea, .Tuple [.Name y p2, .Name z p3] k p4] [] pos) (LE B (wE (.xit a [t1, t2]) G)) := by
  obtain ⟨Cy, hy⟩ := tb_cls ok ht
  obtain ⟨Cz, hz0⟩ := tb_cls ok ht2
  have pt := pe_cls (p := p2) ok hg2 hy
  have pt2 := pe_cls (p := p3) ok hg3 hz0
  have ptt : PE X (.Tuple [.Name y p2, .Name z p3] k p4) _ := pe_tup (pa_cons pt (pa_cons pt2 pa_nil (star_cons rfl)) (star_cons rfl))
  have pa := pa_cons ha (pa_cons ptt pa_nil (star_cons rfl)) (star_cons hes)
  cases hx : G.xa with
  | none =>
    refine PE.imp (pe_callB (call_isi (X := X)) (ok.glb hg) (by rw [ok.hmg]; exact ok.bt _ hb) (by show bootBuiltins _ = _; decide +kernel) pa (by decide) (by decide) (star_cons hes) rfl) fun σ H Q ⟨r, S, e, F, hS, hO, hw, hf⟩ => ?_
    simp only [wE] at hw
    refine ⟨r, S, e, _, hS, hO, hw, fun x S1 r1 H1 v hk ex s1 hv => ?_⟩
    obtain ⟨_, _, _, _, _, _, _, h, _⟩ := hk
    rw [hx] at h; cases h
  | some p0 =>
    obtain ⟨a0, dx0, c0⟩ := p0
    obtain ⟨X0, oe, pn, Cc, e1, hcl, hz, hv, T⟩ := ok.xa _ _ _ hx
    have hK := ok.hK
    subst e1
    refine PE.imp (pe_callB (cr_isE2 (X := X0) T.ie hz hv) (ok.glb hg) (by rw [ok.hmg]; exact ok.bt _ hb) (by show bootBuiltins _ = _; decide +kernel) pa (by decide) (by decide) (star_cons hes) rfl) fun σ H Q ⟨r, S, e, F, hS, hO, hw, hf⟩ => ?_
    simp only [wE] at hw
    refine ⟨r, S, e, _, hS, hO, hw, fun x S1 r1 H1 v hk ex s1 hvv => ?_⟩
    obtain ⟨ad, dx, c, ns, ds, b, rfl, h2, h3, h4⟩ := hk
    rw [hx] at h2; cases h2
    cases hvv with
    | exc k1 k2 k3 k4 k5 =>
      refine ⟨by show 2 ≤ sizeLine; rw [sizeLine_eq]; omega, fun tp htp => ?_⟩
      refine ⟨tp, Cy, Cz, b, _, rfl, upd_same, (upd_ne (ne_of_none k4 htp)).trans k4, ?_, hf _ S1 r1 _ _ h4 (ex.trans (.new htp)) (s1.new htp) (.bl _)⟩
      rw [show X0.K = B.K from hK]
      rcases anyTb_2 h3 with ⟨q1, rfl⟩ | ⟨q1, q2⟩
      · exact kitAny_t (tb_kit ok ht q1 hcl hy)
      · have := kitAny2 (tb_kit ok ht q1 hcl hy) (tb_kit ok ht2 q2 hcl hz0)
        simpa using this
end
end M

set_option Elab.async false
set_option maxRecDepth 100000
set_option maxHeartbeats 8000000
/-! MD: dicts: displays, dicts of the module. -/
namespace M
open PySem L2
open PyProof.Rows hiding St

section
variable {B : Bk1} {C : Ck} {G : Gam} {X : Cx} {sc : Scope} {L : Nat} {σ : L2.St} {H : Hp}
variable {a b c : E} {ea eb ec : Expr} {pos : Pos} {es : List Expr} {ir : Es}
/-- each element's reading -/
def EachP (B : Bk1) (X : Cx) (G : Gam) : Es → List Expr → Prop
  | .nil, es => es = []
  | .cons a r, es => match es with
    | e :: es => PE X e (LE B (wE a G)) ∧ EachP B X G r es
    | [] => False
def trs (B : Bk1) (G : Gam) : List Key → Es → List (TE × TE)
  | k :: ks, .cons a r => (tC (kV k), LE B (wE a G)) :: trs B G ks r
  | _, _ => []
def esLen : Es → Nat
  | .nil => 0
  | .cons _ r => esLen r + 1
theorem eachP_len : ∀ {ir : Es} {es : List Expr}, EachP B X G ir es → esLen ir = es.length
  | .nil, es, h => by
    have h : es = [] := h
    subst h; rfl
  | .cons a r, [], h => h.elim
  | .cons a r, e :: es, h => by
    obtain ⟨_, h2⟩ : PE X e (LE B (wE a G)) ∧ EachP B X G r es := h
    simp [esLen, eachP_len h2]
theorem kKs_len : ∀ {ks : List Key} {keys : List (Option Expr)}, kKs ks keys = true → ks.length = keys.length ∧ keys.all (·.isSome) = true
  | [], keys, h => by
    have h : keys = [] := by simpa [kKs] using h
    subst h; exact ⟨rfl, rfl⟩
  | .inl i :: ks, keys, h => by
    unfold kKs at h
    split at h
    · simp only [Bool.and_eq_true] at h
      obtain ⟨h1, h2⟩ := kKs_len h.2
      exact ⟨by simp [h1], by simpa using h2⟩
    · cases h
  | .inr i :: ks, keys, h => by
    unfold kKs at h
    split at h
    · simp only [Bool.and_eq_true] at h
      obtain ⟨h1, h2⟩ := kKs_len h.2
      exact ⟨by simp [h1], by simpa using h2⟩
    · cases h
theorem pps_of : ∀ {ks : List Key} {keys : List (Option Expr)} {ir : Es} {es : List Expr}, kKs ks keys = true → EachP B X G ir es → keys.length = es.length → PPs X pos keys es (trs B G ks ir)
  | [], keys, ir, es, h, he, hl => by
    have h : keys = [] := by simpa [kKs] using h
    subst h
    have : es = [] := List.eq_nil_of_length_eq_zero hl.symm
    subst this
    cases ir with
    | nil => exact pps_nil
    | cons _ _ => exact he.elim
  | k :: ks, keys, ir, es, h, he, hl => by
    have hh : ∃ e0 keys', keys = some e0 :: keys' ∧ PE X e0 (tC (kV k)) ∧ kKs ks keys' = true := by
      cases k with
      | inl i =>
        unfold kKs at h
        split at h
        · simp only [Bool.and_eq_true, beq_iff_eq] at h
          obtain ⟨rfl, h2⟩ := h
          exact ⟨_, _, rfl, pe_int, h2⟩
        · cases h
      | inr i =>
        unfold kKs at h
        split at h
        · simp only [Bool.and_eq_true, beq_iff_eq] at h
          obtain ⟨rfl, h2⟩ := h
          exact ⟨_, _, rfl, pe_str, h2⟩
        · cases h
    obtain ⟨e0, keys', rfl, h1, h2⟩ := hh
    cases es with
    | nil => cases hl
    | cons e es =>
      cases ir with
      | nil => have he : e :: es = [] := he; cases he
      | cons a r =>
        obtain ⟨q1, q2⟩ : PE X e (LE B (wE a G)) ∧ EachP B X G r es := he
        exact pps_cons h1 q1 (pps_of h2 q2 (by simpa using hl))
theorem tp_of : ∀ {ir : Es} {ks : List Key} {r : Rg} {S : Store} {e : Env'} {H : Hp} {F : List D → Store → Prop} {Q : List (V × V) → Hp → Prop}, RS B r S H → Ro B r H e σ → wEs ir G e S F → esLen ir = ks.length →
    (∀ ds S' r' H' vs, ds.length = ks.length → F ds S' → Ex r H r' H' → RS B r' S' H' → RVs B r' H' ds vs → Q ((ks.map kV).zip vs) H') → tPairs (trs B G ks ir) σ H Q
  | .nil, ks, r, S, e, H, F, Q, hS, hO, hw, hl, hq => by
    have hk : ks = [] := List.eq_nil_of_length_eq_zero hl.symm
    subst hk
    simp only [wEs] at hw
    exact hq [] S r H [] rfl hw .refl hS .nil
  | .cons a ir, [], r, S, e, H, F, Q, hS, hO, hw, hl, hq => by cases hl
  | .cons a ir, k :: ks, r, S, e, H, F, Q, hS, hO, hw, hl, hq => by
    simp only [wEs] at hw
    refine ⟨r, S, e, _, hS, hO, hw, fun x S1 r1 H1 v hk ex s1 hv => ?_⟩
    refine tp_of s1 (hO.mono ex) hk (by simpa [esLen] using hl) fun ds S' r' H' vs hn hF ex2 s2 hvs => ?_
    exact hq (x :: ds) S' r' H' (v :: vs) (by simp [hn]) hF (ex.trans ex2) s2 (.cons (hv.mono ex2) hvs)
theorem zip_kv : ∀ (ks : List Key) (vs : List V), (ks.map kV).zip vs = (ks.zip vs).map fun kv => (kV kv.1, kv.2)
  | [], _ => by simp
  | _ :: _, [] => by simp
  | k :: ks, v :: vs => by simp [zip_kv ks vs]
theorem hasK_any {κ : List Key} {vs : List V} {k : Key} (h : hasK κ k = false) : ((κ.zip vs).any fun kv => decide (kv.1 = k)) = false := by
  induction κ generalizing vs with
  | nil => rfl
  | cons j κ ih =>
    have h' : decide (j = k) = false ∧ hasK κ k = false := by simpa [hasK] using h
    cases vs with
    | nil => rfl
    | cons v vs =>
      rw [List.zip_cons_cons, List.any_cons, ih h'.2, h'.1]; rfl
/-- written keys, each once: the dict is the pairs -/
theorem mergeK_nod : ∀ (ks : List Key) (vs : List V) (acc : List (Key × V)), ks.length = vs.length → nodK ks = true → (∀ k, hasK ks k = true → (acc.any fun kv => decide (kv.1 = k)) = false) → mergeK acc (ks.zip vs) = acc ++ ks.zip vs
  | [], vs, acc, _, _, _ => by simp [mergeK]
  | k :: ks, [], acc, l, _, _ => by cases l
  | k :: ks, v :: vs, acc, l, hn, hd => by
    have hn' : hasK ks k = false ∧ nodK ks = true := by simpa [nodK] using hn
    have e1 : putK acc k v = acc ++ [(k, v)] := by
      unfold putK
      rw [hd k (by simp [hasK])]; rfl
    show mergeK (putK acc k v) (ks.zip vs) = _
    rw [e1, mergeK_nod ks vs _ (by simpa using l) hn'.2 fun j hj => ?_]
    · simp
    · rw [List.any_append, hd j (by
        have : hasK ks j = true := hj
        unfold hasK at this ⊢
        rw [List.any_cons, this, Bool.or_true])]
      by_cases e : k = j
      · subst e; rw [hn'.1] at hj; cases hj
      · simp [e]
theorem RS.sealC {p : Addr} {z : List Addr} {r : Rg} {S : Store} {cc : Cell} (s : RS B r S H) (hz : ∀ a, a ∈ z → a ∈ r.z) (hp : p ∈ r.z) (hc : p ∉ r.c) (hpz : p ∉ z) (q : RC B ((r.un z).add p) H cc p) : RS B ((r.un z).add p) (S ++ [cc]) H := by
  refine ⟨by show (r.c ++ [p]).length = _; simp [s.len], ?_, fun a ha => s.zt a (hz a ha), fun a ha q => ?_, fun n c a h1 h2 => ?_⟩
  · show (r.c ++ [p]).Nodup
    rw [List.nodup_append]
    refine ⟨s.nd, by simp, fun a ha b hb => ?_⟩
    simp at hb; subst hb
    intro e; subst e; exact hc ha
  · rcases List.mem_append.mp (show a ∈ r.c ++ [p] from ha) with w | w
    · exact s.zc a w (hz a q)
    · simp at w; subst w; exact hpz q
  · have h2 : (r.c ++ [p])[n]? = some a := h2
    by_cases hn : n < S.length
    · rw [List.getElem?_append_left hn] at h1
      rw [List.getElem?_append_left (by rw [s.len]; exact hn)] at h2
      exact (s.at_ n c a h1 h2).car (Car.seal hz hp) rfl
    · have e : n = S.length := by
        have := (List.getElem?_eq_some_iff.mp h1).1
        simp at this; omega
      subst e
      rw [List.getElem?_append_right (Nat.le_refl _)] at h1
      rw [List.getElem?_append_right (by rw [s.len]; exact Nat.le_refl _)] at h2
      simp at h1
      rw [s.len] at h2
      simp at h2
      subst h1 h2
      exact q
/-- {k: v, ..} -/
theorem c_dsp {m : Bool} {ks : List Key} {keys : List (Option Expr)} (hk : kKs ks keys = true) (hn : nodK ks = true) (h15 : ks.length ≤ 15) (hl : keys.length = es.length) (he : EachP B X G ir es) : PE X (.Dict keys es pos) (LE B (wE (.dsp m ks ir) G)) := by
  obtain ⟨l1, l2⟩ := kKs_len hk
  cases ks with
  | nil =>
    have hk : keys = [] := List.eq_nil_of_length_eq_zero l1.symm
    subst hk
    have he0 : es = [] := List.eq_nil_of_length_eq_zero hl.symm
    subst he0
    cases ir with
    | cons _ _ => exact he.elim
    | nil =>
      refine PE.imp pe_dnewK fun σ H Q ⟨r, S, e, F, hS, hO, hw, hf⟩ p np => ?_
      simp only [wE, wEs] at hw
      exact hf.dct hS hw rfl .nil p np
  | cons k0 ks0 =>
    generalize eks : k0 :: ks0 = ks at *
    have hne : keys ≠ [] := fun z => by
      subst z
      have : ks.length = 0 := l1
      rw [← eks] at this; cases this
    refine PE.imp (pe_disp (pps_of hk he hl) l2 hl hne (by omega)) fun σ H Q ⟨r, S, e, F, hS, hO, hw, hf⟩ p np => ?_
    simp only [wE] at hw
    have nc := hS.freeC np
    have nz : p ∉ r.z := (Rg.not.mp (hS.free np)).2
    have ln : Lnk B.r0 B.H0 (r.mk' p) (upd H p (.dK [])) := hO.ln.go ⟨[], by simp [Rg.mk'], fun _ h => by cases h⟩ (fun a ha => List.mem_cons_of_mem _ ha) (fun a o h _ => (upd_ne (ne_of_none h np)).trans h) fun a o h => ⟨o, (upd_ne (ne_of_none h np)).trans h⟩
    refine tp_of (hS.zin np) (hO.go (Car.zin np) ln) hw (by rw [eachP_len he, ← hl, ← l1]) fun ds S' r' H' vs hd hF ex s' hvs => ?_
    have hpz : p ∈ r'.z := by rw [ex.zz]; exact List.mem_cons_self
    have npc : p ∉ r'.c := fun hm => s'.zc p hm hpz
    have hHp : H' p = some (.dK []) := ex.keep p _ upd_same nc
    have lv : ks.length = vs.length := by rw [← hvs.length, hd]
    have hzs : ∀ a, a ∈ r.z → a ∈ r'.z := fun a ha => by rw [ex.zz]; exact List.mem_cons_of_mem _ ha
    refine ⟨hHp, ks.zip vs, zip_kv ks vs, by rw [List.length_zip, ← lv]; simpa using h15, ?_⟩
    rw [mergeK_nod ks vs [] lv hn (fun _ _ => rfl), List.nil_append]
    have ex2 : Ex r H (r'.un r.z) (upd H' p (.dK (ks.zip vs))) := Ex.zstep np (Ex.zstart (o := .dK []) np) ex npc
    have s1 := s'.zput (o := .dK (ks.zip vs)) hpz
    have v1 := hvs.car (Car.zput (H := H') (o := .dK (ks.zip vs)) hpz)
    cases m with
    | false =>
      refine hf _ S' (r'.un r.z) _ _ hF ex2 (s1.zout hzs) (.dct ?_ hd.symm (.inl upd_same) (v1.car (Car.zout hzs)))
      rw [Rg.not]; exact ⟨npc, nz⟩
    | true =>
      refine hf _ _ ((r'.un r.z).add p) _ _ hF (Ex.seal np ex2) (s1.sealC hzs hpz npc nz (.dct hd.symm upd_same (v1.car (Car.seal hzs hpz)))) (.ref ?_)
      show (r'.c ++ [p])[S'.length]? = some p
      rw [← s'.len]; simp
/-- x in WORDS -/
theorem c_kin (ok : XOk C B L G X sc) {neg : Bool} {x : Str} {zs : List Str} {p : Pos} {o : CmpOp} (ho : o = if neg then CmpOp.NotIn else CmpOp.In) (hg : isGl sc x = true) (hk : C.kd.lookup x = some zs) (ha : PE X ea (LE B (wE a G))) :
    PE X (.Compare ea [o] [.Name x p] pos) (LE B (wE (.kin neg a x zs) G)) ∧ PT X (.Compare ea [o] [.Name x p] pos) (LT B (wE (.kin neg a x zs) G)) := by
  obtain ⟨d, en, n, hm, K, hz⟩ := ok.kd_ x zs hk
  have pd := pe_cls (p := p) ok hg hm
  have K' : KDict X.K X.w d en n := by rw [ok.hK]; exact K
  subst ho
  cases neg with
  | false =>
    have key : ∀ σ H Q, LE B (wE (.kin false a x zs) G) σ H Q → tOp (fun x y H Q => ∃ (z : Str) (r : Option Value), x = .str z ∧ y = .ref d ∧ PySem.W.nsIn X.K d z = some r ∧ Q (.bl r.isSome) H) (LE B (wE a G)) (tC (.ref d)) σ H Q := fun σ H Q ⟨r, S, e, F, hS, hO, hw, hf⟩ => by
      simp only [wE] at hw
      refine ⟨r, S, e, _, hS, hO, hw, fun v S1 r1 H1 u hv ex s1 hu => ?_⟩
      obtain ⟨z, rfl, hq⟩ := hv
      cases hu
      obtain ⟨rr, h1, h2⟩ := hz z
      exact ⟨z, rr, rfl, rfl, by rw [ok.hK]; exact h1, by rw [h2]; exact hf _ S1 r1 H1 _ (by simpa using hq) ex s1 (.bl _)⟩
    refine ⟨PE.imp (pe_cmpR (op_in_kd K') ha pd rfl) key, PT.imp (pt_cmpR (op_in_kd K') ha pd rfl) fun σ H Q q => key _ _ _ (LT.tB q)⟩
  | true =>
    have key : ∀ σ H Q, LE B (wE (.kin true a x zs) G) σ H Q → tOp (fun x y H Q => ∃ (z : Str) (r : Option Value), x = .str z ∧ y = .ref d ∧ PySem.W.nsIn X.K d z = some r ∧ Q (.bl (!r.isSome)) H) (LE B (wE a G)) (tC (.ref d)) σ H Q := fun σ H Q ⟨r, S, e, F, hS, hO, hw, hf⟩ => by
      simp only [wE] at hw
      refine ⟨r, S, e, _, hS, hO, hw, fun v S1 r1 H1 u hv ex s1 hu => ?_⟩
      obtain ⟨z, rfl, hq⟩ := hv
      cases hu
      obtain ⟨rr, h1, h2⟩ := hz z
      exact ⟨z, rr, rfl, rfl, by rw [ok.hK]; exact h1, by rw [h2]; exact hf _ S1 r1 H1 _ (by simpa using hq) ex s1 (.bl _)⟩
    refine ⟨PE.imp (pe_cmpR (op_notIn_kd K') ha pd rfl) key, PT.imp (pt_cmpR (op_notIn_kd K') ha pd rfl) fun σ H Q q => key _ _ _ (LT.tB q)⟩
end
end M

set_option Elab.async false
set_option maxRecDepth 100000
set_option maxHeartbeats 8000000
/-! MS: texts: methods, f'..'. -/
namespace M
open PySem L2
open PyProof.Rows hiding St

section
variable {B : Bk1} {C : Ck} {G : Gam} {X : Cx} {sc : Scope} {L : Nat} {σ : L2.St} {H : Hp}
variable {a b c : E} {ea eb ec : Expr} {pos : Pos} {es : List Expr} {ir : Es}
def smId : Sm → String
  | .starts => "str.startswith" | .ends => "str.endswith" | .upper => "str.upper" | .join => "str.join"
theorem sm_slot : ∀ f : Sm, Slot "str" (smName f) (smId f)
  | .starts => PySem.F.slot_str_startswith
  | .ends => PySem.F.slot_str_endswith
  | .upper => PySem.F.slot_str_upper
  | .join => PySem.F.slot_str_join
theorem sm_type : ∀ f : Sm, typeOf (.builtin (smId f)) = pure (.type "method_descriptor")
  | .starts => PySem.F.type_str_startswith
  | .ends => PySem.F.type_str_endswith
  | .upper => PySem.F.type_str_upper
  | .join => PySem.F.type_str_join
theorem RVs.strs {r : Rg} {H : Hp} {B : Bk} : ∀ {ds : List D} {vs : List V} {ys : List Str}, RVs B r H ds vs → strsOf ds = some ys → vs = ys.map V.str
  | _, _, ys, .nil, h => by cases h; rfl
  | _, _, ys, .cons h hs, q => by
    cases h with
    | str x =>
      simp only [strsOf, Option.map_eq_some_iff] at q
      obtain ⟨zs, q, rfl⟩ := q
      rw [RVs.strs hs q]; rfl
    | _ => simp [strsOf] at q
theorem MtM.imp' {id : String} {a b : V → List V → Hp → VK → Prop} (h : MtR X id a) (k : ∀ v vs H Q, b v vs H Q → a v vs H Q) : MtR X id b :=
  fun pins s σ H x xs v us Q I rx rv q => h pins s σ H x xs v us Q I rx rv (k _ _ _ _ q)
theorem sm_any (hK : X.K = B.K) : ∀ f, MtR X (smId f) (LMop B (wSm f)) := by
  intro f
  cases f
  case starts =>
    refine MtM.imp' (mt_startswith (X := X)) fun v vs H Q ⟨r, S, o, ds, F, hS, ho, hs, hw, hf⟩ => ?_
    unfold wSm at hw
    split at hw
    all_goals try contradiction
    obtain ⟨y, rfl, hy⟩ := hs.one
    cases ho; cases hy
    exact ⟨_, _, rfl, rfl, hf.bl hS hw⟩
  case ends =>
    refine MtM.imp' (mt_endswith (X := X)) fun v vs H Q ⟨r, S, o, ds, F, hS, ho, hs, hw, hf⟩ => ?_
    unfold wSm at hw
    split at hw
    all_goals try contradiction
    obtain ⟨y, rfl, hy⟩ := hs.one
    cases ho; cases hy
    exact ⟨_, _, rfl, rfl, hf.bl hS hw⟩
  case upper =>
    refine MtM.imp' (mt_upper (X := X)) fun v vs H Q ⟨r, S, o, ds, F, hS, ho, hs, hw, hf⟩ => ?_
    unfold wSm at hw
    split at hw
    all_goals try contradiction
    cases hs
    cases ho
    exact ⟨_, rfl, rfl, hw.1, hf.str hS hw.2⟩
  case join =>
    refine MtM.imp' (mt_join (X := X)) fun v vs H Q ⟨r, S, o, ds, F, hS, ho, hs, hw, hf⟩ => ?_
    unfold wSm at hw
    split at hw
    all_goals try contradiction
    obtain ⟨xs, ys, h1, h2, h3, h4⟩ := hw
    obtain ⟨y, rfl, hy⟩ := hs.one
    cases ho
    obtain ⟨p, ws, rfl, k, hv⟩ := sqOf_at hS h1 hy
    have e := RVs.strs hv h2
    subst e
    exact ⟨_, p, ys, rfl, rfl, by rw [hK]; exact k, h3, hf.str hS h4⟩
theorem c_sm (ok : XOk C B L G X sc) {f : Sm} {name : Str} {apos : Pos} (hnm : name = smName f) (hl : (apos.endLine == pos.line) = true) (hr : isRecv ea = true) (hes : allArg es = true) (hlt : es.length < 20)
    (ho : PE X ea (LE B (wE a G))) (ha : PA X es (LEs B es.length (wEs ir G))) (h0 : es = [] → ir = .nil) : PE X (.Call (.Attribute ea name apos) es [] pos) (LE B (wE (.sm f a ir) G)) := by
  subst hnm
  have key : ∀ {σ H Q}, LE B (wE (.sm f a ir) G) σ H Q → LE B (wE a G) σ H fun v H1 => ∃ r S e o F, RS B r S H1 ∧ Ro B r H1 e σ ∧ RV B r H1 o v ∧ ((∃ a, o = .str a) ∧ wEs ir G e S fun ds S2 => wSm f o ds S2 F) ∧ Fn B r H1 F Q := by
    intro σ H Q q
    simp only [wE] at q
    exact LE.bind (K := fun o e S Q => (∃ a, o = .str a) ∧ wEs ir G e S fun ds S2 => wSm f o ds S2 Q) q
  have ty : ∀ {r : Rg} {S : Store} {H : Hp} {o : D} {v : V}, RV B r H o v → (∃ a, o = .str a) → tyV X.K "str" v H := by
    intro r S H o v ho h
    obtain ⟨a, rfl⟩ := h
    cases ho
    rfl
  cases es with
  | nil =>
    have hir := h0 rfl
    subst hir
    refine PE.imp (pe_bm0 PySem.F.plainAttrs_str (sm_slot f) (sm_type f) (sm_any (B := B) ok.hK f) ho (base_of hr) hl) fun σ H Q q => (key q).post fun v H ⟨r, S, e, o, F, hS, hO, hv, ⟨h1, h2⟩, hf⟩ => ⟨ty (S := S) hv h1, ?_⟩
    simp only [wEs] at h2
    exact ⟨r, S, o, [], F, hS, hv, .nil, h2, hf⟩
  | cons e0 es0 =>
    have he : isArg e0 = true ∧ allArg es0 = true := by simpa [allArg] using hes
    have hfew : ((backTo pos (starEach (e0 :: es0) X.env)).all (fun x => !x.1) && (backToKw pos (keywordEach [] X.env)).all (fun x => x.1.isSome) && decide ((e0 :: es0).length + ([] : List Keyword).length + (if ([] : List Keyword).isEmpty then 0 else 1) < 30)) = true := by
      rw [all_args hes, Bool.and_eq_true]
      refine ⟨rfl, decide_eq_true ?_⟩
      simp only [List.length_nil, List.isEmpty_nil, if_true]
      omega
    refine PE.imp (pe_bm PySem.F.plainAttrs_str (sm_slot f) (sm_type f) (sm_any (B := B) ok.hK f) ho ha (base_of hr) hfew hl (star_cons he.1) (plain_args he.2)) fun σ H Q q => (key q).post fun v H ⟨r, S, e, o, F, hS, hO, hv, ⟨h1, h2⟩, hf⟩ => ⟨ty (S := S) hv h1, ?_⟩
    exact ⟨r, S, e, _, hS, hO, h2, fun ds S' r' H' vs hn q1 q2 q3 q4 => ⟨r', S', o, ds, F, q3, hv.mono q2, q4, q1, hf.trans q2⟩⟩
/-- each part of f'..' -/
def EachF (B : Bk1) (X : Cx) (G : Gam) : Es → List Expr → List TE → Prop
  | .nil, es, ts => es = [] ∧ ts = []
  | .cons a r, es, ts => match es, ts with
    | e :: es, t :: ts => PE X e t ∧ (t = tFmt (LE B (wE a G)) ∨ ∃ y, a = .cst (.str y) ∧ t = tC (.str y)) ∧ EachF B X G r es ts
    | _, _ => False
theorem eachF_pj : ∀ {ir : Es} {es : List Expr} {ts : List TE}, EachF B X G ir es ts → PJ X es ts
  | .nil, es, ts, h => by
    obtain ⟨rfl, rfl⟩ : es = [] ∧ ts = [] := h
    exact .nil
  | .cons a r, [], ts, h => h.elim
  | .cons a r, e :: es, [], h => h.elim
  | .cons a r, e :: es, t :: ts, h => by
    obtain ⟨h1, _, h2⟩ : PE X e t ∧ _ ∧ EachF B X G r es ts := h
    exact .cons h1 (eachF_pj h2)
theorem len_le {a y : Str} (h : (a ++ y).length ≤ sizeLine) : y.length ≤ sizeLine := by
  have : (a ++ y).length = a.length + y.length := by
    show (a.cps ++ y.cps).size = _
    rw [Array.size_append]; rfl
  omega
theorem js_of : ∀ {ir : Es} {es : List Expr} {ts : List TE} {acc : Str} {r : Rg} {S : Store} {e : Env'} {H : Hp} {F : Str → Store → Prop} {Q : Str → Hp → Prop}, EachF B X G ir es ts → RS B r S H → Ro B r H e σ → wFs ir acc G e S F →
    (∀ y S' r' H', F y S' → Ex r H r' H' → RS B r' S' H' → Q y H') → tJs ts acc σ H Q
  | .nil, es, ts, acc, r, S, e, H, F, Q, h, hS, hO, hw, hq => by
    obtain ⟨rfl, rfl⟩ : es = [] ∧ ts = [] := h
    simp only [wFs] at hw
    exact hq acc S r H hw .refl hS
  | .cons a ir, [], ts, acc, r, S, e, H, F, Q, h, hS, hO, hw, hq => h.elim
  | .cons a ir, e0 :: es, [], acc, r, S, e, H, F, Q, h, hS, hO, hw, hq => h.elim
  | .cons a ir, e0 :: es, t :: ts, acc, r, S, e, H, F, Q, h, hS, hO, hw, hq => by
    obtain ⟨_, ht, h2⟩ : PE X e0 t ∧ (t = tFmt (LE B (wE a G)) ∨ ∃ y, a = .cst (.str y) ∧ t = tC (.str y)) ∧ EachF B X G ir es ts := h
    simp only [wFs] at hw
    rcases ht with rfl | ⟨y, rfl, rfl⟩
    · refine ⟨r, S, e, _, hS, hO, hw, fun x S1 r1 H1 v hk ex s1 hv => ?_⟩
      obtain ⟨y, h3, h4, h5⟩ := hk
      have go : ∃ y' : Str, V.str y = V.str y' ∧ (acc ++ y').length ≤ sizeLine ∧ tJs ts (acc ++ y') σ H1 Q :=
        ⟨y, rfl, h4, js_of h2 s1 (hO.mono ex) h5 fun z S' r' H' q1 q2 q3 => hq z S' r' H' q1 (ex.trans q2) q3⟩
      unfold fmtD at h3
      split at h3
      · cases h3
        cases hv
        exact .inl ⟨_, rfl, len_le h4, go⟩
      · split at h3
        · rename_i hi
          cases h3
          cases hv
          exact .inr ⟨_, rfl, hi, go⟩
        · cases h3
      · cases h3
    · simp only [wE] at hw
      obtain ⟨z, h3, h4, h5⟩ := hw
      have e : y = z := by simpa [fmtD] using h3
      subst e
      exact ⟨y, rfl, h4, js_of h2 hS hO h5 hq⟩
theorem c_fs {v1 v2 : Expr} {rest : List Expr} {ts : List TE} (h : EachF B X G ir (v1 :: v2 :: rest) ts) : PE X (.JoinedStr (v1 :: v2 :: rest) pos) (LE B (wE (.fs ir) G)) := by
  refine PE.imp (pe_joined (eachF_pj h)) fun σ H Q ⟨r, S, e, F, hS, hO, hw, hf⟩ => ?_
  simp only [wE] at hw
  exact js_of h hS hO hw fun y S' r' H' q1 q2 q3 => hf _ S' r' H' _ q1 q2 q3 (.str y)
end
end M

set_option Elab.async false
set_option maxRecDepth 100000
set_option maxHeartbeats 8000000
/-! MC: classes: fields, methods, new instances. -/
namespace M
open PySem L2
open PyProof.Rows hiding St

/-! fields -/
def putVV : List Str → List V → Str → V → List V
  | n :: r, d :: ds, f, y => if n = f then y :: ds else d :: putVV r ds f y
  | _, _, _, y => [y]
theorem putF_zip {f : Str} {y : V} : ∀ {ns : List Str} {vs : List V}, ns.length = vs.length → putF f y (ns.zip vs) = (putN ns f).zip (putVV ns vs f y)
  | [], [], _ => rfl
  | [], _ :: _, h => by cases h
  | _ :: _, [], h => by cases h
  | n :: ns, v :: vs, h => by
    have ih := putF_zip (f := f) (y := y) (ns := ns) (vs := vs) (by simpa using h)
    show (if n = f then (n, y) :: ns.zip vs else (n, v) :: putF f y (ns.zip vs)) = _
    unfold putN putVV
    by_cases e : n = f
    · rw [if_pos e, if_pos e, if_pos e]; rfl
    · rw [if_neg e, if_neg e, if_neg e, ih]; rfl
theorem putN_len {f : Str} {d : D} : ∀ {ns : List Str} {ds : List D}, ns.length = ds.length → (putN ns f).length = (putV ns ds f d).length
  | [], [], _ => rfl
  | [], _ :: _, h => by cases h
  | _ :: _, [], h => by cases h
  | n :: ns, v :: vs, h => by
    have ih := putN_len (f := f) (d := d) (ns := ns) (ds := vs) (by simpa using h)
    unfold putN putV
    by_cases e : n = f
    · rw [if_pos e, if_pos e]; simpa using h
    · rw [if_neg e, if_neg e, List.length_cons, List.length_cons, ih]
theorem RVs.putV {B : Bk} {r : Rg} {H : Hp} {f : Str} {d : D} {v : V} (hd : RV B r H d v) : ∀ {ns : List Str} {ds : List D} {vs : List V}, ns.length = ds.length → RVs B r H ds vs → RVs B r H (putV ns ds f d) (putVV ns vs f v)
  | [], _, _, _, .nil => .cons hd .nil
  | [], _, _, h, .cons _ _ => by cases h
  | _ :: _, _, _, h, .nil => by cases h
  | n :: ns, _, _, h, .cons h1 h2 => by
    unfold M.putV putVV
    by_cases e : n = f
    · rw [if_pos e, if_pos e]; exact .cons hd h2
    · rw [if_neg e, if_neg e]; exact .cons h1 (RVs.putV hd (by simpa using h) h2)
theorem lookup_none {m : Str} : ∀ {ns : List Str} {vs : List V}, ns.contains m = false → (ns.zip vs).lookup m = none
  | [], _, _ => rfl
  | _ :: _, [], _ => rfl
  | n :: ns, v :: vs, h => by
    rw [List.contains_cons, Bool.or_eq_false_iff] at h
    rw [List.zip_cons_cons, List.lookup_cons, h.1]
    exact lookup_none h.2

section
variable {B : Bk1} {C : Ck} {G : Gam} {X : Cx} {sc : Scope} {L : Nat} {σ : L2.St} {H : Hp}
variable {a : E} {ea : Expr} {pos : Pos} {es : List Expr} {ir ks : Es}
theorem ins_at {B : Bk} {r : Rg} {S : Store} {H : Hp} {x : D} {v : V} {c : Str} {ns : List Str} {ds : List D} (hS : RS B r S H) (hv : RV B r H x v) (h : insOf S x = some (c, ns, ds)) :
    ∃ a Cc dx vs, v = .ref a ∧ clsAt B c Cc ∧ ns.length = ds.length ∧ H a = some (.ins Cc dx (ns.zip vs)) ∧ RVs B r H ds vs := by
  cases hv with
  | ref hr =>
    rename_i n a
    simp only [insOf] at h
    split at h
    · rename_i c' ns' ds' e
      cases h
      have k := hS.at_ n _ a e hr
      cases k with
      | ins h1 h2 h3 h4 => exact ⟨_, _, _, _, rfl, h1, h2, h3, h4⟩
    · cases h
  | ins h1 h2 h3 h4 h5 => cases h; exact ⟨_, _, _, _, rfl, h1, h3, h4, h5⟩
  | _ => cases h
theorem cs_at (ok : XOk C B L G X sc) {f : Str} {cs : List Str} {c : Str} {Cc : Addr} (h : csOk C f cs = true) (hc : cs.contains c = true) (hcl : clsAt B c Cc) : Cls X.K Cc ∧ NoAttr X.K Cc f := by
  unfold csOk at h
  rw [List.all_eq_true] at h
  have h1 := h c (by simpa using hc)
  rw [List.any_eq_true] at h1
  obtain ⟨⟨p1, fs⟩, hp, e⟩ := h1
  rw [Bool.and_eq_true, beq_iff_eq] at e
  obtain ⟨e1, e2⟩ := e
  simp only at e1 e2
  subst e1
  obtain ⟨Dd, h2, h3, h4⟩ := ok.cl p1 fs (by simpa using hp)
  have e3 := clsAt_eq hcl h2
  subst e3
  rw [ok.hK]
  exact ⟨h3, h4 f (by simpa using e2)⟩
theorem c_fld (ok : XOk C B L G X sc) {f : Str} {cs : List Str} (hc : csOk C f cs = true) (hr : isRecv ea = true) (ha : PE X ea (LE B (wE a G))) : PE X (.Attribute ea f pos) (LE B (wE (.fld a f cs) G)) :=
  PE.imp (pe_fld ha (base_of hr)) fun σ H Q ⟨r, S, e, F, hS, hO, hw, hf⟩ => by
    simp only [wE] at hw
    refine ⟨r, S, e, _, hS, hO, hw, fun x S1 r1 H1 v hk ex s1 hv => ?_⟩
    obtain ⟨c, ns, ds, d, h1, h2, h3, h4⟩ := hk
    obtain ⟨a, Cc, dx, vs, rfl, hcl, hl, hH, hvs⟩ := ins_at s1 hv h1
    obtain ⟨hC, hn⟩ := cs_at ok hc h2 hcl
    obtain ⟨v, q1, q2⟩ := lookup_zip hvs h3
    exact ⟨a, Cc, dx, _, v, rfl, hH, hC, hn, q1, hf _ S1 r1 H1 _ h4 ex s1 q2⟩
theorem g_at (ok : XOk C B L G X sc) {f : Str} {cs : List Str} (hc : csOk C f cs = true) (ha : PE X ea (LE B (wE a G))) : PG X (.Attribute ea f pos) (LG B [] (wTg (.at_ a f cs) G)) := by
  refine ⟨fun pins s σ H v u Q I rv ⟨r, S, e, d, F, hS, hO, hv, hw, hf⟩ => ?_⟩
  simp only [wTg] at hw
  rw [assign_Attribute]
  refine wpAny_bind (wpAny_holding (thn (ha.run pins s σ H (fun x H1 => ∃ r1 S1 o, RS B r1 S1 H1 ∧ RV B r1 H1 o x ∧ Ex r H r1 H1 ∧ wSetF cs f o d S1 fun S2 => F e S2) I ⟨r, S, e, _, hS, hO, hw, fun o S1 r1 H1 x hk ex s1 hx => ⟨r1, S1, o, s1, hx, ex, hk⟩⟩) fun ov s1 ⟨x, H1, I1, rx, r1, S1, o, s1', hx, ex, hk⟩ => ?_))
  obtain ⟨n, c, ns, ds, rfl, h1, h2, h3, h4⟩ := hk
  cases hx with
  | ref hr =>
    have k := s1'.at_ n _ _ h1 hr
    cases k with
    | ins k1 k2 k3 k4 =>
      rename_i ad Cc dx vs
      obtain ⟨hC, hn⟩ := cs_at ok hc h2 k1
      obtain rfl : ov = Value.ref ad := rx
      have hvl := k4.length
      have ha' : ad ∈ r1.c := List.mem_of_getElem? hr
      have hz : (ns.zip vs).length < 1000 := by rw [List.length_zip]; omega
      refine wpAny_bind (wpAny_standAt (wpAny_bind (wpAny_holding (setattr_ok I1 k3 hC hn hz rv fun s2 I2 => ?_))))
      refine wpAny_release ⟨σ, _, I2, ?_⟩
      have e1 := putF_zip (f := f) (y := v) (ns := ns) (vs := vs) (by omega)
      have hd1 : RV B r1 H1 d v := hv.mono ex
      have exx : Ex r1 H1 r1 (upd H1 ad (.ins Cc dx (putF f v (ns.zip vs)))) := .put ha'
      refine hf e _ r1 _ σ h4 (ex.trans exx) (s1'.putC hr (.ins k1 (putN_len k2) (by rw [upd_same, e1]) (RVs.putV (hd1.mono exx) k2 (k4.mono exx)))) ((hO.mono ex).mono exx) .refl

/-! methods -/
theorem pmut_range {α : Type} : ∀ (us : List α), pmut (List.range us.length) us = us := by
  intro us
  unfold pmut
  apply List.ext_getElem?
  intro i
  have key : ∀ (n : Nat) (h : n ≤ us.length), (List.range n).filterMap (fun i => us[i]?) = us.take n := by
    intro n
    induction n with
    | zero => intro _; rfl
    | succ n ih =>
      intro h
      rw [List.range_succ, List.filterMap_append, ih (by omega), List.filterMap_cons, List.filterMap_nil, List.getElem?_eq_getElem (show n < us.length by omega), List.take_add_one, List.getElem?_eq_getElem (show n < us.length by omega)]
      rfl
  rw [key us.length (Nat.le_refl _), List.take_length]
theorem bnd_of {fd : FuncData} {ps ns : List Str} {pats : List (Nat × List Str)} {n : Nat} (b : Bnd fd ps pats) (h : patOk n ps ns pats = true) {us ws : List Value} (hu : us.length = n) (hw : ws.length = ns.length) :
    bindArgs fd ⟨us, ns.zip ws⟩ = pure (ps.zip (pmut (pmOf n ps ns) (us ++ ws))) ∧ (pmut (pmOf n ps ns) (us ++ ws)).length = ps.length := by
  unfold patOk at h
  rw [Bool.or_eq_true] at h
  rcases h with h | h
  · rw [Bool.and_eq_true, decide_eq_true_eq] at h
    have e : ns = [] := List.isEmpty_iff.mp h.1
    subst e
    have e2 : ws = [] := List.length_eq_zero_iff.mp hw
    subst e2
    have e3 : pmut (pmOf n ps []) (us ++ []) = us := by
      unfold pmOf
      rw [h.2, List.drop_length, List.map_nil, List.append_nil, List.append_nil, ← h.2, ← hu]
      exact pmut_range us
    rw [e3]
    exact ⟨b.pos us (by rw [hu, h.2]), by rw [hu, h.2]⟩
  · rw [List.any_eq_true] at h
    obtain ⟨⟨p1, p2⟩, hp, e⟩ := h
    rw [Bool.and_eq_true, beq_iff_eq, beq_iff_eq] at e
    obtain ⟨e1, e2⟩ := e
    simp only at e1 e2
    subst e1 e2
    exact b.kw (p1, p2) hp us ws hu hw
theorem mt_at {m c : Str} {n k : Nat} {ns : List Str} {tb : List (Str × Nat × List Nat)} {pm : List Nat} (h : mtOk C m n ns tb = true) (hl : tb.lookup c = some (k, pm)) : ∃ x ps pats, C.fn[k]? = some (x, ps, pats) ∧ spl x = some (c, m) ∧ patOk (n + 1) ps ns pats = true ∧ pm = pmOf (n + 1) ps ns := by
  unfold mtOk at h
  rw [List.all_eq_true] at h
  have hm : (c, k, pm) ∈ tb := by
    clear h
    induction tb with
    | nil => simp at hl
    | cons p r ih =>
      obtain ⟨q, z⟩ := p
      rw [List.lookup_cons] at hl
      split at hl
      · rename_i e
        rw [beq_iff_eq] at e
        cases hl; subst e
        exact List.mem_cons_self
      · exact List.mem_cons_of_mem _ (ih hl)
  have h1 := h _ hm
  simp only at h1
  split at h1
  · rename_i x ps pats e
    rw [Bool.and_eq_true, Bool.and_eq_true, beq_iff_eq, decide_eq_true_eq] at h1
    exact ⟨x, ps, pats, e, h1.1.1, h1.1.2, h1.2⟩
  · cases h1
/-- the tree of a method call -/
theorem meth_tree {m : Str} {apos : Pos} {kws : List Keyword} {ns : List Str} (hr : isRecv ea = true) (hl : (apos.endLine == pos.line) = true) (hes : allArg es = true) (hlt : es.length < 20) (hk : kws.length < 8) (hns : kwNames kws = some ns) :
    ∃ pl : Sem Bool, eval (.Call (.Attribute ea m apos) es kws pos) X.env = (do
      let ov ← eval ea X.env
      standAt apos.atName
      let (f, first) ← holding [ov] (getMethod ov m pl)
      callWith pos f first (backTo pos (starEach es X.env)) (backToKw pos (keywordEach kws X.env))) := by
  obtain ⟨n1, _, _⟩ := kw_names (pos := pos) (env := X.env) hns
  have few : methodCallForm (es.length + kws.length) (backTo pos (starEach es X.env)) (backToKw pos (keywordEach kws X.env)) = true := by
    unfold methodCallForm
    rw [all_args hes, n1, Bool.true_and]
    refine decide_eq_true ?_
    split <;> omega
  refine ⟨(do return (← importBound ea X.env).getD true), ?_⟩
  show (do
    let ov ← attributeBase ea m X.env (eval ea X.env)
    standAt apos.atName
    methodCall ea m apos pos X.env ov (es.length + kws.length) (backTo pos (starEach es X.env)) (backToKw pos (keywordEach kws X.env))) = _
  rw [base_of hr]
  unfold methodCall calleeOf methodCallPos
  rw [few]
  simp only [Bool.not_true, Bool.false_or, hl, if_true, pure_bind]
theorem c_mth (ok : XOk C B L G X sc) (hh : C.hot = false) {tb : List (Str × Nat × List Nat)} {m : Str} {ns : List Str} {apos : Pos} {kws : List Keyword} (hm : m ≠ "__init__") (hl : (apos.endLine == pos.line) = true) (hr : isRecv ea = true) (hes : allArg es = true) (hlt : es.length < 20) (hk8 : kws.length < 8)
    (hns : kwNames kws = some ns) (ht : mtOk C m es.length ns tb = true) (ho : PE X ea (LE B (wE a G))) (ha : PA X es (LEs B es.length (wEs ir G))) (hk : PK X kws (LEs B kws.length (wEs ks G))) (hnl : ns.length = kws.length) (h0 : es = [] → ir = .nil) :
    PE X (.Call (.Attribute ea m apos) es kws pos) (LE B (wE (.mth tb m a ir ks) G)) := by
  refine ⟨fun pins s σ H Q I h => ?_⟩
  obtain ⟨r, S, e, F, hS, hO, hw, hf⟩ := h
  simp only [wE] at hw
  obtain ⟨pl, tree⟩ := meth_tree (X := X) (m := m) hr hl hes hlt hk8 hns
  obtain ⟨n1, n2, n3⟩ := kw_names (pos := pos) (env := X.env) hns
  have body := ho.run pins s σ H (fun v H1 => ∃ r S e o F, RS B r S H1 ∧ Ro B r H1 e σ ∧ RV B r H1 o v ∧ Fn B r H1 F Q ∧ ∃ c ns vs k pm, insOf S o = some (c, ns, vs) ∧ tb.lookup c = some (k, pm) ∧ ns.contains m = false ∧ wEs ir G e S fun ds S2 => wEs ks G e S2 fun zs S3 => wCall G k (pmut pm (o :: (ds ++ zs))) e S3 F) I
    ⟨r, S, e, _, hS, hO, hw, fun o S' r' H' v q1 q2 q3 q4 => ⟨r', S', e, o, F, q3, hO.mono q2, q4, hf.trans q2, q1⟩⟩
  clear hS hO hw hf
  clear r S e F
  refine PySem.W.methodCall_KW (pl := pl) (thn body fun ov s1 ⟨v, H1, I1, rv, r, S, e, o, F, hS, hO, hv, hf, c, nms, vs, k, pm, q1, q2, q3, hw⟩ => ?_) tree
  obtain ⟨ad, Cc, dx, us0, rfl, hcl, _, hH, _⟩ := ins_at hS hv q1
  obtain rfl : ov = Value.ref ad := rv
  obtain ⟨x, ps, pats, hC, hsp, hpat, hpm⟩ := mt_at ht q2
  obtain ⟨ms, hG, f, fd, L', hL, hA, h3, h4'⟩ := ok.fn k x ps pats hC
  obtain ⟨Cd, hcd, hCls, hMeth⟩ := hA.meth hsp hm
  have e3 := clsAt_eq hcl hcd
  subst e3
  have h4 := h4'.mono (show L' ≤ L by omega)
  rw [← ok.hK] at hCls hMeth
  refine getmeth_ok I1 hH hCls hMeth (lookup_none q3) ?_
  have fin : ∀ {us : List Value} {vs : List V} {s2 : Shared} {H2 : Hp} {r2 : Rg} {S2 : Store} {ds : List D}, Inv X pins σ H2 s2 → Vals vs us → RS B r2 S2 H2 → Ex r H1 r2 H2 → RVs B r2 H2 ds vs → ds.length = es.length →
      wEs ks G e S2 (fun zs S3 => wCall G k (pmut pm (o :: (ds ++ zs))) e S3 F) →
      wpAny (model X.prog X.w) X.A (evalAll ((backToKw pos (keywordEach kws X.env)).map (·.2))) (fun ws s3 => X.K.In s3.heap ∧ wpAny (model X.prog X.w) X.A (call (.ref f) ([.ref ad] ++ us) (((backToKw pos (keywordEach kws X.env)).filterMap (·.1)).zip ws)) (EP X pins σ Q) X.xe s3) X.xe s2 := by
    intro us vs s2 H2 r2 S2 ds I2 rv2 hS2 ex2 hd hn1 hw2
    refine thn (hk.run pos pins s2 σ H2 (fun zs H3 => ∃ r3 S3 ws2, RS B r3 S3 H3 ∧ Ex r2 H2 r3 H3 ∧ RVs B r3 H3 ws2 zs ∧ ws2.length = kws.length ∧ wCall G k (pmut pm (o :: (ds ++ ws2))) e S3 F) I2
      ⟨r2, S2, e, _, hS2, hO.mono ex2, hw2, fun zs S' r' H' vs hn p1 p2 p3 p4 => ⟨r', S', zs, p3, p2, p4, hn, p1⟩⟩) fun ws s3 ⟨zs, H3, I3, rz, r3, S3, ws2, hS3, ex3, hz, hn2, hw3⟩ => ⟨I3.kIn, ?_⟩
    rw [n2]
    have l1 : (Value.ref ad :: us).length = es.length + 1 := by rw [List.length_cons, ← rv2.length, ← hd.length, hn1]
    have l2 : ws.length = ns.length := by rw [← rz.length, ← hz.length, hn2, hnl]
    obtain ⟨b1, b2⟩ := bnd_of h3 hpat l1 l2
    have ex13 := ex2.trans ex3
    refine own_run (us := .ref ad :: us) (bs := pmut (pmOf (es.length + 1) ps ns) (.ref ad :: us ++ ws)) (kws := ns.zip ws) ok hh (x := x) hG h4 I3 hS3 (hO.mono ex13) (RVs.pmut (.cons (hv.mono ex13) ((hd.mono ex3).append hz)) (pmOf (es.length + 1) ps ns)) (.of_eq b1) b2 (Vals.pmut (Paired.cons (show RelV (V.ref ad) (Value.ref ad) from rfl) (rv2.append rz)) _) ?_ (hf.trans ex13)
    rw [← hpm]; exact hw3
  cases es with
  | nil =>
    have hir := h0 rfl
    subst hir
    simp only [wEs] at hw
    exact PySem.W.callWith_KW0 (first := [.ref ad]) (h₀ := X.base) I1.ok.mod.kin hMeth.kp n1 (fin I1 .nil hS .refl .nil rfl hw) (by rw [n3]; rfl)
  | cons e0 es0 =>
    have he : isArg e0 = true ∧ allArg es0 = true := by simpa [allArg] using hes
    have body2 := ha.run pos pins s1 σ H1 (fun vs H2 => ∃ r2 S2 ds, RS B r2 S2 H2 ∧ Ex r H1 r2 H2 ∧ RVs B r2 H2 ds vs ∧ ds.length = (e0 :: es0).length ∧ wEs ks G e S2 (fun zs S3 => wCall G k (pmut pm (o :: (ds ++ zs))) e S3 F)) I1
      ⟨r, S, e, _, hS, hO, hw, fun ds S' r' H' vs hn p1 p2 p3 p4 => ⟨r', S', ds, p3, p2, p4, hn, p1⟩⟩
    refine PySem.W.callWith_KW (first := [.ref ad]) (h₀ := X.base) I1.ok.mod.kin hMeth.kp n1 (thn body2 fun us s2 ⟨vs, H2, I2, rv2, r2, S2, ds, hS2, ex2, hd, hn1, hw2⟩ => fin I2 rv2 hS2 ex2 hd hn1 hw2) ?_ (star_cons he.1)
    rw [n3, star_cons he.1]
    show ((false || (backTo pos (starEach es0 X.env)).any (·.1)) || false) = false
    rw [plain_args he.2]; rfl

/-! new instances -/
theorem made_guards {A : Around} {Cc : Addr} {us : List Value} {kw : List (Str × Value)} (h : A.guards = some []) : (A.under (.builtin "type.__call__" ⟨.ref Cc :: us, kw⟩)).guards = some [] := by
  have e : (A.under (.builtin "type.__call__" ⟨.ref Cc :: us, kw⟩)).guards = pushGuards (Code.builtin "type.__call__" ⟨.ref Cc :: us, kw⟩).guards A.guards := by
    unfold Around.under
    rfl
  rw [e, h]
  simp [Code.guards, pushGuards, Code.isGuard, guardIds]
theorem fx_make {pins : List (Addr × Obj)} {s : Shared} {Q : VK} {f Cc : Addr} {fd : FuncData} {ps : List Str} {sp : Sp} {us : List Value} {bs : Value → List Value} {vs : V → List V} {kws : List (Str × Value)} {W : WX} {k : Nat} (M1 : Mk X.K Cc f)
    (F : Fx X.prog X.w X.K X.mg X.base k f fd ps sp) (hr : Room (k + 1) X.A) (hg : X.A.guards = some []) (tk : Takes X W) (I : Inv X pins σ H s) (hb : ∀ (n : Addr) (t : Shared), BindsTo t fd ⟨.ref n :: us, kws⟩ (ps.zip (bs (.ref n)))) (hl : ∀ n : Addr, (bs (.ref n)).length = ps.length) (rv : ∀ n : Addr, Vals (vs (.ref n)) (bs (.ref n)))
    (h : ∀ x dx, H x = none → H dx = none → dx ≠ x → sp (vs (.ref x)) (upd (upd H dx (.own x)) x (.ins Cc dx [])) (fun v H2 => v = .non ∧ Q (.ref x) H2) (WE W σ)) :
    wpAny (model X.prog X.w) X.A (call (.ref Cc) us kws) (EP X pins σ Q) X.xe s := by
  have want := h (s.heap.objs.size + 1) s.heap.objs.size (I.hok.fresh (Nat.le_add_right _ 1)) (I.hok.fresh (Nat.le_refl _)) (Nat.ne_of_lt (Nat.lt_add_one _))
  have J := Inv.made (C := Cc) I
  have go := F.run (X.A.under (.builtin "type.__call__" ⟨.ref Cc :: us, kws⟩)) X.stack _ _ ⟨.ref (s.heap.objs.size + 1) :: us, kws⟩ _ _ _ _ (hr.make Cc us kws) (made_guards hg) (J.env0.make Cc us kws) (hb _ _) (hl _) (rv _) want
  refine wpAny_call (make_map (f := f) I.kIn M1.makes M1.init (beq_iff_eq.mp M1.fn) (codeAny_mono go fun res s' hq => ?_))
  match res, hq with
  | .error e, hq => exact passAt tk σ pins _ _ e s' J hq
  | .ok (.ret u), hq =>
    obtain ⟨v, H', J', rv', ev, q⟩ := J.after hq
    subst ev
    exact ⟨rv', V.ref (s.heap.objs.size + 1), H', J', rfl, q⟩
  | .ok .next, hq => exact False.elim hq
  | .ok .brk, hq => exact False.elim hq
  | .ok .cont, hq => exact False.elim hq
theorem c_mkc (ok : XOk C B L G X sc) (hh : C.hot = false) {k : Nat} {x c : Str} {ps ns : List Str} {pats : List (Nat × List Str)} {p : Pos} {pm : List Nat} {kws : List Keyword} (hC : C.fn[k]? = some (x, ps, pats)) (hg : isGl sc c = true) (hsp : spl x = some (c, ("__init__" : Str))) (hpat : patOk (es.length + 1) ps ns pats = true) (hns : kwNames kws = some ns)
    (hpm : pm = pmOf (es.length + 1) ps ns) (hes : allArg es = true) (ha : PA X es (LEs B es.length (wEs ir G))) (hk : PK X kws (LEs B kws.length (wEs ks G))) (hnl : ns.length = kws.length) (h0 : es = [] → ir = .nil) : PE X (.Call (.Name c p) es kws pos) (LE B (wE (.mkc k c pm ir ks) G)) := by
  obtain ⟨ms, hG, f, fd, L', hL, hA, h3, h4⟩ := ok.fn k x ps pats hC
  obtain ⟨Cc, hcc, hCls, hMk⟩ := hA.ini hsp
  have hini : isIni x = true := by unfold isIni; rw [hsp]; exact beq_self_eq_true _
  rw [hini, if_pos rfl] at hL
  obtain ⟨g1, g2, g3⟩ := gl_of hg
  refine ⟨fun pins s σ H Q I h => ?_⟩
  obtain ⟨r, S, e, F, hS, hO, hw, hf⟩ := h
  simp only [wE] at hw
  have hm : X.mg c = some (.ref Cc) := by rw [ok.hmg]; exact hcc
  rw [← ok.hK] at hMk
  obtain ⟨n1, n2, n3⟩ := kw_names (pos := pos) (env := X.env) hns
  have Fk : Fx X.prog X.w X.K X.mg X.base L' f fd ps (LSp B ms) := by rw [ok.hK, ok.hmg]; exact h4
  refine wpAny_Call_Name_kw (ld_glob I (ok.glb hg) hm ?_ g3)
  have fin : ∀ {us : List Value} {vs : List V} {s1 : Shared} {H1 : Hp} {r : Rg} {S : Store} {ds : List D}, Inv X pins σ H1 s1 → Vals vs us → RS B r S H1 → Ro B r H1 e σ → RVs B r H1 ds vs → ds.length = es.length → Fn B r H1 F Q →
      wEs ks G e S (fun zs S2 => wCall G k (pmut pm (.ref S2.length :: (ds ++ zs))) e (S2 ++ [.ins c [] []]) fun d S' => d = .non ∧ F (.ref S2.length) S') →
      wpAny (model X.prog X.w) X.A (evalAll ((backToKw pos (keywordEach kws X.env)).map (·.2))) (fun ws s2 => X.K.In s2.heap ∧ wpAny (model X.prog X.w) X.A (call (.ref Cc) ([] ++ us) (((backToKw pos (keywordEach kws X.env)).filterMap (·.1)).zip ws)) (EP X pins σ Q) X.xe s2) X.xe s1 := by
    intro us vs s1 H1 r S ds I1 rv hS hO hd hn1 hf hw
    refine thn (hk.run pos pins s1 σ H1 (fun zs H2 => ∃ r S ds ws2, RS B r S H2 ∧ Ro B r H2 e σ ∧ RVs B r H2 ds vs ∧ RVs B r H2 ws2 zs ∧ ds.length = es.length ∧ ws2.length = kws.length ∧ Fn B r H2 F Q ∧ wCall G k (pmut pm (.ref S.length :: (ds ++ ws2))) e (S ++ [.ins c [] []]) fun d S' => d = .non ∧ F (.ref S.length) S') I1
      ⟨r, S, e, _, hS, hO, hw, fun zs S' r' H' vs hn q1 q2 q3 q4 => ⟨r', S', ds, zs, q3, hO.mono q2, hd.mono q2, q4, hn1, hn, hf.trans q2, q1⟩⟩) fun ws s2 ⟨zs, H2, I2, rz, r, S, ds, ws2, hS, hO, hd, hz, hn1, hn2, hf, hw⟩ => ⟨I2.kIn, ?_⟩
    rw [n2]
    have l1 : ∀ n : Addr, (Value.ref n :: us).length = es.length + 1 := fun n => by rw [List.length_cons, ← rv.length, ← hd.length, hn1]
    have l2 : ws.length = ns.length := by rw [← rz.length, ← hz.length, hn2, hnl]
    refine fx_make (us := us) (bs := fun u => pmut (pmOf (es.length + 1) ps ns) (u :: us ++ ws)) (vs := fun u => pmut (pmOf (es.length + 1) ps ns) (u :: (vs ++ zs))) (kws := ns.zip ws) hMk Fk ((ok.room hh).mono hL) ok.gd ok.tk I2
      (fun n t => .of_eq (bnd_of h3 hpat (l1 n) l2).1) (fun n => (bnd_of h3 hpat (l1 n) l2).2) (fun n => Vals.pmut (Paired.cons (show RelV (V.ref n) (Value.ref n) from rfl) (rv.append rz)) _) fun ad dx ha hdx hne => ?_
    have hda : (upd H2 dx (.own ad)) ad = none := by rw [upd_ne (Ne.symm hne)]; exact ha
    have x1 : Ex r H2 r (upd H2 dx (.own ad)) := .new hdx
    have x2 : Ex r (upd H2 dx (.own ad)) (r.add ad) (upd (upd H2 dx (.own ad)) ad (.ins Cc dx [])) := .cell hda
    have xx := x1.trans x2
    have hS2 : RS B (r.add ad) (S ++ [.ins c [] []]) (upd (upd H2 dx (.own ad)) ad (.ins Cc dx [])) :=
      (hS.new hdx).pushC hda x2 (fun a u q => (upd_ne (ne_of_none q hda)).trans q) (.ins hcc rfl (by rw [upd_same]; rfl) .nil)
    have hr : (r.add ad).c[S.length]? = some ad := by
      show (r.c ++ [ad])[S.length]? = some ad
      rw [List.getElem?_append_right (by rw [hS.len]; exact Nat.le_refl _), hS.len, Nat.sub_self]; rfl
    unfold wCall at hw
    rw [hG] at hw
    refine ⟨r.add ad, S ++ [.ins c [] []], pmut pm (.ref S.length :: (ds ++ ws2)), _, _, hS2, ?_, hw, fun d S' r' H' v h1 h2 h3 h4 => ?_, fun d S' r' H' c' dx' h1 h2 h3 h4 => ⟨r', S', e, d, h3, hO.mono (xx.trans h2), h4, h1⟩⟩
    · rw [hpm]
      exact RVs.pmut (.cons (.ref hr) ((hd.mono xx).append (hz.mono xx))) _
    · obtain ⟨rfl, h5⟩ := h1
      cases h4
      exact ⟨rfl, hf _ S' r' H' _ h5 (xx.trans h2) h3 (.ref (h2.get hr))⟩
  cases es with
  | nil =>
    have hir := h0 rfl
    subst hir
    simp only [wEs] at hw
    exact PySem.W.callWith_KW0 (h₀ := X.base) I.ok.mod.kin hMk.kp n1 (fin I .nil hS hO .nil rfl hf hw) (by rw [n3]; rfl)
  | cons e0 es0 =>
    have he : isArg e0 = true ∧ allArg es0 = true := by simpa [allArg] using hes
    have body := ha.run pos pins s σ H (fun vs H1 => ∃ r S ds, RS B r S H1 ∧ Ro B r H1 e σ ∧ RVs B r H1 ds vs ∧ ds.length = (e0 :: es0).length ∧ Fn B r H1 F Q ∧ wEs ks G e S (fun zs S2 => wCall G k (pmut pm (.ref S2.length :: (ds ++ zs))) e (S2 ++ [.ins c [] []]) fun d S' => d = .non ∧ F (.ref S2.length) S')) I
      ⟨r, S, e, _, hS, hO, hw, fun ds S' r' H' vs hn q1 q2 q3 q4 => ⟨r', S', ds, q3, hO.mono q2, q4, hn, hf.trans q2, q1⟩⟩
    refine PySem.W.callWith_KW (h₀ := X.base) I.ok.mod.kin hMk.kp n1 (thn body fun us s1 ⟨vs, H1, I1, rv, r, S, ds, hS, hO, hd, hn1, hf, hw⟩ => fin I1 rv hS hO hd hn1 hf hw) ?_ (star_cons he.1)
    rw [n3, star_cons he.1]
    show ((false || (backTo pos (starEach es0 X.env)).any (·.1)) || false) = false
    rw [plain_args he.2]; rfl
end
end M

set_option Elab.async false
set_option maxRecDepth 100000
set_option maxHeartbeats 8000000
/-! MV: walks over dicts, list(d.values()). -/
namespace M
open PySem L2
open PyProof.Rows hiding St

/-- a dict that is read -/
theorem rdK_at {X : Cx} {pins : List (Addr × Obj)} {σ : L2.St} {H : Hp} {s : Shared} {p : Addr} {kvs : List (Key × V)} (I : Inv X pins σ H s) (h : Rd H p (.dK kvs)) :
    (p == sysModules) = false ∧ kvs.length ≤ sizeLine ∧ ∃ (ep : Nat) (vs : List (Key × Value)), KV kvs vs ∧ s.heap.DictAt (mixKind X.prog X.w) p vs ep := by
  obtain ⟨z, lo, vs, rk, hd⟩ := (show ObjOk X.prog X.w H s.heap p (.dK kvs) from h.ok I.hok)
  obtain ⟨ep, hat⟩ := hd.dictAt
  exact ⟨lo, z, ep, vs, rk, hat⟩
def tVals (to : TE) : TE := fun σ H Q => to σ H fun x H1 => ∃ d kvs, x = .ref d ∧ Rd H1 d (.dK kvs) ∧ ∀ q, H1 q = none → Q (.ref q) (upd H1 q (.lst (kvs.map (·.2))))
theorem pe_listVals {X : Cx} {o : Expr} {to : TE} {p pos apos cpos : Pos} (hc : X.calm = true) (hg : Gl X "list") (hm : X.mg "list" = none) (ho : PE X o to)
    (hbase : attributeBase o "values" X.env (eval o X.env) = eval o X.env) (hline : (apos.endLine == cpos.line) = true) :
    PE X (.Call (.Name "list" p) [.Call (.Attribute o "values" apos) [] [] cpos] [] pos) (tVals to) := by
  refine ⟨fun pins s σ H Q I h => ?_⟩
  have na : starEach [Expr.Call (.Attribute o "values" apos) [] [] cpos] X.env = (false, eval (.Call (.Attribute o "values" apos) [] [] cpos) X.env) :: starEach [] X.env := rfl
  refine Call_ (ld_blt I hg hm boot_list (PyProof.Rows.callWith_type1 (args_cons ?_ na) na))
  refine wpAny_Call_method (T := "dict") (id := "dict.values") hbase rfl hline F.plainAttrs_dict F.slot_dict_values F.type_dict_values (thn (ho.run pins s σ H _ I h) fun u s1 ⟨x, H1, I1, rx, d, kvs, ex, hd, q⟩ => ?_)
  subst ex
  obtain rfl : u = Value.ref d := rx
  obtain ⟨hs, hz, ep, vs, kv, hm⟩ := rdK_at I1 hd
  have hl : kvs.length = vs.length := Paired.length kv
  refine ⟨hm.dictOf.typeIs, hm.dictOf.mapOf.noDict, ?_⟩
  have I2 : Inv X pins σ H1 { s1 with heap := s1.heap.push { cls := .type "dict_values", data := .fields #[.ref d] } } := I1.kept (t' := s1.toks) fun b ob q => Heap.get?_push_of_some _ q
  have hv : (s1.heap.push { cls := .type "dict_values", data := .fields #[.ref d] }).IsValuesView s1.heap.objs.size d := ⟨_, Heap.get?_push_size _ rfl, rfl, rfl⟩
  refine method_meetsIn F.slot_dict_values F.entry_dict_values rfl (PySem.evalArgs_none ⟨rfl, hm.dictOf.typeIs, F.args_dict_values_1 _, _, meets_dict_values (mixKind X.prog X.w) d hs, ⟨vs, hm.dictOf⟩, ?_⟩)
  refine args_nil ?_
  refine PySem.W.kdl_call (PySem.W.kdl_values (knd := mixKind X.prog X.w) (kvs := vs) (ep := ep)) (I2.ok.hd hc) ⟨hv, hm.push _⟩ (by rw [← hl]; exact hz) fun h' tk acc' c' hkeep hS hacc => ?_
  refine ⟨.ref _, upd H1 _ (.lst (kvs.map (·.2))), I2.laid hkeep (Nat.le_refl _) (show ObjOk X.prog X.w _ _ _ (.lst (kvs.map (·.2))) from ⟨?_, acc'.toList, c', ?_, ?_⟩), rfl, q _ (I2.hok.fresh (Nat.le_refl _))⟩
  · rw [List.length_map]; exact hz
  · have el : acc'.toList.length = acc'.size := by simp
    refine vals_of_at (by rw [List.length_map, el, hacc.1, hl]) fun j x w h1 h2 => ?_
    obtain ⟨k, hky⟩ := hacc.2 j w (by rw [← Array.getElem?_toList]; exact h2)
    rw [List.getElem?_map, Option.map_eq_some_iff] at h1
    obtain ⟨⟨k2, v2⟩, h3, rfl⟩ := h1
    obtain ⟨u, hu, ru⟩ := kv_get kv h3
    rw [hky] at hu
    cases hu
    exact ru
  · rw [Array.toArray_toList]; exact hS

section
variable {B : Bk1} {C : Ck} {G : Gam} {X : Cx} {sc : Scope} {L : Nat} {σ : L2.St} {H : Hp}
variable {a b c : E} {ea eb ec : Expr} {pos : Pos} {es : List Expr} {ir : Es}
theorem PE.or {e : Expr} {t t' : TE} (h : PE X e t) (h' : PE X e t') : PE X e (fun σ H Q => t σ H Q ∨ t' σ H Q) :=
  ⟨fun pins s σ H Q I q => by
    rcases q with q | q
    · exact h.run pins s σ H Q I q
    · exact h'.run pins s σ H Q I q⟩
theorem XOk.nx (ok : XOk C B L G X sc) (r0 : Rg) (H0 : Hp) : XOk C ⟨B.toBk, r0, H0⟩ L G.nox X sc where
  hK := ok.hK
  hmg := ok.hmg
  hN := ok.hN
  nd := ok.nd
  calm := ok.calm
  rel := ok.rel
  kd := ok.kd
  cel := ok.cel
  room := ok.room
  un := ok.un
  gd := ok.gd
  gl := ok.gl
  bt := ok.bt
  im := ok.im
  fn := ok.fn
  tk := fun u s' ⟨_, _, _, _, _, _, _, _, _, _, _, _, _, _, _, _, _, _, _, _, _, _, _, z⟩ => z.elim
  xa := fun _ _ _ h => by cases h
  ec := ok.ec
  exm := ok.exm
  kd_ := ok.kd_
  cl := ok.cl
theorem Ex.lk {r r' : Rg} {H H' : Hp} {a : Addr} {u o : HO} (h : H a = some u) (na : a ∉ r.c) (x : Ex r (upd H a o) r' H') : Ex r H r' (upd H' a u) := by
  obtain ⟨⟨nw, e, hn⟩, hz, hk, ht⟩ := x
  refine ⟨⟨nw, e, fun b hb => ?_⟩, hz, fun b v hb n => ?_, fun b v hb => ?_⟩
  · have q := hn b hb
    by_cases eb : b = a
    · subst eb; rw [upd_same] at q; cases q
    · rw [upd_ne eb] at q; exact q
  · by_cases eb : b = a
    · subst eb; rw [h] at hb; cases hb; exact upd_same
    · rw [upd_ne eb]; exact hk b v ((upd_ne eb).trans hb) n
  · by_cases eb : b = a
    · subst eb; exact ⟨u, upd_same⟩
    · rw [upd_ne eb]; exact ht b v ((upd_ne eb).trans hb)
theorem keyD_rv {B : Bk} {r : Rg} {H : Hp} : ∀ k : Key, RV B r H (keyD k) (kV k)
  | .inl i => .int i
  | .inr x => .str x
theorem c_dvl (ok : XOk C B L G X sc) (hh : C.hot = false) {m : Bool} {x name : Str} {p apos cpos : Pos} (h1 : x = "list") (hg : isGl sc x = true) (hb : hasBt C x = true) (hn : name = "values") (hl : (apos.endLine == cpos.line) = true) (hr : isRecv ea = true) (ho : PE X ea (LE B (wE a G))) :
    PE X (.Call (.Name x p) [.Call (.Attribute ea name apos) [] [] cpos] [] pos) (LE B (wE (.dvl m a) G)) := by
  subst h1 hn
  have hm : X.mg "list" = none := by rw [ok.hmg]; exact ok.bt _ hb
  refine PE.imp (pe_listVals (ok.calm hh) (ok.glb hg) hm ho (base_of hr) hl) fun σ H Q q => ?_
  simp only [wE] at q
  refine (LE.bind (K := fun x e S Q => ∃ ks ds, dcOf S x = some (ks, ds) ∧ mkL m ds S Q) q).post fun v H ⟨r, S, e, x, F, hS, hO, hx, ⟨ks, ds, h3, h4⟩, hf⟩ => ?_
  obtain ⟨p, vs, rfl, l, hd, hs⟩ := dcOf_at hS h3 hx
  refine ⟨p, ks.zip vs, rfl, hd, fun q nq => ?_⟩
  have e : (ks.zip vs).map (·.2) = vs := by
    have hl : vs.length ≤ ks.length := by rw [← hs.length, l]; exact Nat.le_refl _
    exact List.map_snd_zip hl
  rw [e]
  exact hf.mk hS h4 hs q nq
/-! comprehensions over a dict that a name stands for -/
def tiD (kd i : Nat) : TI := match kd with
  | 0 => iKeys (tVar i)
  | 1 => iVals (tVar i)
  | _ => iItems (tVar i)
theorem dcNm_of (ok : XOk C B L G X sc) {i : Nat} {x : Str} {p : Pos} (h : dcNm C sc i x = true) : PE X (.Name x p) (tVar i) := by
  simp only [dcNm, Bool.and_eq_true, beq_iff_eq, bne_iff_ne, ne_eq] at h
  obtain ⟨⟨⟨h1, h2⟩, h3⟩, h4⟩ := h
  exact pe_var (by rw [ok.hN]; exact h1) (ok.vis h2) (beq_eq_false_iff_ne.mpr h3) (beq_eq_false_iff_ne.mpr h4)
theorem pi_dc (ok : XOk C B L G X sc) {kd i : Nat} {tg it : Expr} (h : dcIt C sc kd i tg it = true) : PI X tg it (tiD kd i) := by
  unfold dcIt at h
  split at h
  · exact pi_keys (dcNm_of ok h)
  · simp only [Bool.and_eq_true, beq_iff_eq] at h
    obtain ⟨⟨rfl, h2⟩, h3⟩ := h
    exact pi_values (dcNm_of ok h3) rfl (beq_iff_eq.mpr h2)
  · simp only [Bool.and_eq_true, beq_iff_eq] at h
    obtain ⟨⟨⟨rfl, h2⟩, h3⟩, h4⟩ := h
    split at h4
    · exact pi_items (dcNm_of ok h3) rfl (beq_iff_eq.mpr h2)
    · cases h4
  · cases h
theorem zipD_get {ks : List Key} {ds : List D} {vs : List V} {i : Nat} {k : Key} {v : V} {r : Rg} {H : Hp} {B : Bk} (hs : RVs B r H ds vs) (h : (ks.zip vs)[i]? = some (k, v)) : ks[i]? = some k ∧ vs[i]? = some v ∧ ∃ d, ds[i]? = some d ∧ RV B r H d v := by
  rw [List.getElem?_zip_eq_some] at h
  obtain ⟨d, h1, h2⟩ := hs.getV h.2
  exact ⟨h.1, h.2, d, h1, h2⟩
/-- a dict under lock, walked -/
theorem jok_dc {kd i : Nat} {r : Rg} {a : Addr} {od : Obj} {ks : List Key} {vs : List V} {ds : List D} {R : L2.It → Hp → Prop} (na : a ∉ r) (hd : H a = some (.frz od (.dK (ks.zip vs)))) (l : ks.length = ds.length) (hs : RVs B.toBk r H ds vs) (hσ : σ[i]? = some (some (.ref a)))
    (q : ∀ J, JOk B.toBk J ⟨dItems kd ks ds, none⟩ r H → R J H) : tiD kd i σ H R := by
  have hl : (ks.zip vs).length = ks.length := by rw [List.length_zip, ← hs.length, l]; simp
  have hd2 : ∀ {r2 : Rg} {H2 : Hp}, Car r H r2 H2 → H2 a = some (.frz od (.dK (ks.zip vs))) := fun x => (x.keep a _ hd na).1
  have hk : ∀ i, i < ks.length → ∃ k v d, (ks.zip vs)[i]? = some (k, v) ∧ ks[i]? = some k ∧ ds[i]? = some d := fun i hi => by
    obtain ⟨⟨k, v⟩, hkv⟩ : ∃ p, (ks.zip vs)[i]? = some p := ⟨_, List.getElem?_eq_getElem (by rw [hl]; exact hi)⟩
    obtain ⟨h1, _, d, h2, _⟩ := zipD_get hs hkv
    exact ⟨k, v, d, hkv, h1, h2⟩
  match kd with
  | 0 =>
    refine ⟨.ref a, hσ, a, od, rfl, .inl ⟨ks.zip vs, hd, q _ fun i S2 r2 H2 x s2 _ => ⟨fun e => ⟨hd2 x, ?_⟩, fun d hd' => ?_⟩⟩⟩
    · rw [hl, e]; simp [dItems]
    · have hi : i < ks.length := by have := (List.getElem?_eq_some_iff.mp hd').1; simpa [dItems] using this
      obtain ⟨k, v, d2, h1, h2, h3⟩ := hk i hi
      refine ⟨⟨hd2 x, by rw [hl]; exact hi⟩, fun y H3 ⟨e3, k', v', hk', ey⟩ => ?_⟩
      subst e3 ey
      have hk' : (ks.zip vs)[i]? = some (k', v') := hk'
      rw [h1] at hk'
      cases hk'
      have : d = keyD k := by simpa [dItems, h2] using hd'.symm
      subst this
      exact ⟨.refl, s2, keyD_rv k⟩
  | 1 =>
    refine ⟨.ref a, hσ, a, od, ks.zip vs, rfl, hd, q _ fun i S2 r2 H2 x s2 _ => ⟨fun e => ⟨hd2 x, ?_⟩, fun d hd' => ?_⟩⟩
    · rw [hl, e, l]; exact Nat.le_refl _
    · have hi : i < ks.length := by have := (List.getElem?_eq_some_iff.mp hd').1; rw [l]; exact this
      refine ⟨⟨hd2 x, by rw [hl]; exact hi⟩, fun y H3 ⟨e3, k', hk'⟩ => ?_⟩
      subst e3
      have hk' : (ks.zip vs)[i]? = some (k', y) := hk'
      obtain ⟨_, _, d2, h2, h3⟩ := zipD_get hs hk'
      have hd' : ds[i]? = some d := hd'
      rw [hd'] at h2
      cases h2
      exact ⟨.refl, s2, h3.car x⟩
  | n + 2 =>
    refine ⟨.ref a, hσ, a, od, ks.zip vs, rfl, hd, q _ fun i S2 r2 H2 x s2 _ => ⟨fun e => ⟨hd2 x, ?_⟩, fun d hd' => ?_⟩⟩
    · rw [hl, e]; simp [dItems, zip2D, l]
    · have hi : i < ks.length := by
        have := (List.getElem?_eq_some_iff.mp hd').1
        simp [dItems, zip2D, l] at this
        omega
      obtain ⟨k, v, d2, h1, h2, h3⟩ := hk i hi
      refine ⟨⟨hd2 x, by rw [hl]; exact hi⟩, fun y H3 ⟨T, k', v', hk', ey, hT, eH⟩ => ?_⟩
      subst ey eH
      have hk' : (ks.zip vs)[i]? = some (k', v') := hk'
      obtain ⟨k1, k2, d3, k3, k4⟩ := zipD_get hs hk'
      have : d = .tup [keyD k', d3] := by
        have hz : ((ks.map keyD).zip ds)[i]? = some (keyD k', d3) := List.getElem?_zip_eq_some.mpr ⟨by rw [List.getElem?_map, k1]; rfl, k3⟩
        have hd' : (((ks.map keyD).zip ds).map fun p => D.tup [p.1, p.2])[i]? = some d := hd'
        rw [List.getElem?_map, hz] at hd'
        exact (Option.some.inj hd').symm
      subst this
      have hv : RVs B.toBk r2 H2 [keyD k', d3] [kV k', v'] := .cons (keyD_rv k') (.cons (k4.car x) .nil)
      obtain ⟨n1, n2⟩ := new_tup s2 hT hv
      exact ⟨n1, n2.1, n2.2⟩
/-- with any start of the walk -/
def tLcd (B : Bk1) (G : Gam) (kd i : Nat) (elt : E) (t : Tg) (cd : Oe) (vs : List Nat) : TE := fun σ H Q => ∃ (r0 : Rg) (H0 : Hp), tLc (tiD kd i) (LG ⟨B.toBk, r0, H0⟩ (tgSl t) (wTg t G.nox)) (LTt ⟨B.toBk, r0, H0⟩ (wT cd G.nox)) (LE ⟨B.toBk, r0, H0⟩ (wE elt G.nox)) vs σ H Q
theorem lcd_core {m : Bool} {kd i : Nat} {elt : E} {t : Tg} {cd : Oe} {vs : List Nat} {r : Rg} {S : Store} {e : Env'} {a : Addr} {od : Obj} {ks : List Key} {ds : List D} {us : List V} {F : Post} {Q : VK} (hsl : ∀ i ∈ tgSl t, i ∈ vs) (hS : RS B r S H) (hO : Ro ⟨B.toBk, r, H⟩ r H e σ) (na : a ∉ r)
    (hd : H a = some (.frz od (.dK (ks.zip us)))) (l : ks.length = ds.length) (hs : RVs B.toBk r H ds us) (hσ : σ[i]? = some (some (.ref a))) (hF : wLc G e m elt t cd vs F ⟨dItems kd ks ds, none⟩ S) (hf : Fn B r H F Q) : tLcd B G kd i elt t cd vs σ H Q :=
  ⟨r, H, jok_dc na hd l hs hσ fun J hj => lc_go (B := ⟨B.toBk, r, H⟩) hsl hO hS hj hf hF⟩
theorem lcd_go {m : Bool} {kd i : Nat} {elt : E} {t : Tg} {cd : Oe} {vs : List Nat} {Q : VK} (hsl : ∀ i ∈ tgSl t, i ∈ vs) (q : LE B (wE (.lcd m kd i elt t cd vs) G) σ H Q) : tLockE (tLcd B G kd i elt t cd vs) σ H Q ∨ tLcd B G kd i elt t cd vs σ H Q := by
  obtain ⟨r, S, e, F, hS, hO, hw, hf⟩ := q
  simp only [wE] at hw
  split at hw
  · rename_i d q
    obtain ⟨ks, ds, rfl, hF⟩ := hw
    obtain ⟨v, h5, h6⟩ := hO.at_ i _ q
    cases h6 with
    | @dct _ a us _ n l hr hs =>
      have na := (Rg.not.mp n).1
      have hl : (ks.zip us).length = ks.length := by rw [List.length_zip, ← hs.length, l]; simp
      rcases hr with hr | ⟨o, hr⟩
      · refine .inl ⟨a, _, hr, True.intro, fun od => ?_⟩
        have lk := Lck.lk (od := od) hr
        have s1 := hS.lckV na lk
        refine lcd_core (m := m) (ks := ks) (ds := ds) (us := us) (F := F) hsl s1 ⟨.refl, hO.len, fun i d h => ?_⟩ n upd_same l (hs.lck lk) h5 hF ?_
        · obtain ⟨w, q1, q2⟩ := hO.at_ i d h
          exact ⟨w, q1, q2.lck lk⟩
        · intro d S' r' H' v h x s hv
          have h1 := x.keep a _ upd_same na
          have u3 : Lck H' (upd H' a (.dK (ks.zip us))) := .un h1
          exact ⟨h1, hf d S' r' _ v h (Ex.lk hr na x) (s.lckV (x.outC upd_same na) u3) (hv.lck u3)⟩
      · exact .inr (lcd_core (m := m) hsl hS ⟨.refl, hO.len, hO.at_⟩ n hr l hs h5 hF hf)
  · exact hw.elim
theorem pe_lcd {e : Expr} {kd i : Nat} {elt : E} {t : Tg} {cd : Oe} {vs : List Nat} {m : Bool} (hsl : ∀ i ∈ tgSl t, i ∈ vs)
    (h : ∀ (r0 : Rg) (H0 : Hp), PE X e (tLc (tiD kd i) (LG ⟨B.toBk, r0, H0⟩ (tgSl t) (wTg t G.nox)) (LTt ⟨B.toBk, r0, H0⟩ (wT cd G.nox)) (LE ⟨B.toBk, r0, H0⟩ (wE elt G.nox)) vs)) : PE X e (LE B (wE (.lcd m kd i elt t cd vs) G)) := by
  have p1 : PE X e (tLcd B G kd i elt t cd vs) := ⟨fun pins s σ H Q I ⟨r0, H0, q⟩ => (h r0 H0).run pins s σ H Q I q⟩
  exact PE.imp (PE.or (pe_lock p1) p1) fun σ H Q q => lcd_go hsl q
end
end M

set_option Elab.async false
set_option maxRecDepth 100000
set_option maxHeartbeats 16000000
/-! M12: the theorem for expressions. -/
namespace M
open PySem L2
open PyProof.Rows hiding St

section
variable {B : Bk1} {C : Ck} {L : Nat}
/-- an expression's three readings -/
structure Snd (B : Bk1) (X : Cx) (e : Expr) (w : Env' → Store → Post → Prop) : Prop where
  pe : PE X e (LE B w)
  pt : PT X e (LT B w)
  pw : (∃ op vs p, e = .BoolOp op vs p) → PW X e (LT B w)
theorem Snd.of {X : Cx} {e : Expr} {w : Env' → Store → Post → Prop} (h : PE X e (LE B w)) (he : ∀ whole, isTrue e X.env whole = (do let v ← whole; standAt e.pos; holding [v] (truthy v)) := by intro _; rfl) (hb : ∀ op vs p, e ≠ .BoolOp op vs p := by intros; intro h; cases h) : Snd B X e w :=
  ⟨h, pt_of h he, fun ⟨op, vs, p, q⟩ => absurd q (hb op vs p)⟩
theorem Snd.of2 {X : Cx} {e : Expr} {w : Env' → Store → Post → Prop} (h : PE X e (LE B w) ∧ PT X e (LT B w)) (hb : ∀ op vs p, e ≠ .BoolOp op vs p := by intros; intro h; cases h) : Snd B X e w :=
  ⟨h.1, h.2, fun ⟨op, vs, p, q⟩ => absurd q (hb op vs p)⟩
structure SndA (B : Bk1) (X : Cx) (es : List Expr) (w : Env' → Store → (List D → Store → Prop) → Prop) : Prop where
  pa : PA X es (LEs B es.length w)
  pk : ∀ kws, kwVals kws = es → PK X kws (LEs B kws.length w)
theorem kwVals_len : ∀ kws, (kwVals kws).length = kws.length
  | [] => rfl
  | ⟨_, _, _⟩ :: r => by simp [kwVals, kwVals_len r]
theorem kwNames_len : ∀ {kws ns}, kwNames kws = some ns → ns.length = kws.length
  | [], ns, h => by cases h; rfl
  | ⟨none, _, _⟩ :: _, ns, h => by simp [kwNames] at h
  | ⟨some n, _, _⟩ :: r, ns, h => by
    simp only [kwNames, Option.map_eq_some_iff] at h
    obtain ⟨ns', h1, rfl⟩ := h
    simp [kwNames_len h1]
theorem onlyNms_len {sc : Scope} : ∀ {ts : Tgs} {es : List Expr}, kTgs C sc ts es = true → tgsLen ts = es.length ∧ allArg es = true
  | .nil, es, h => by
    cases es with
    | nil => exact ⟨rfl, rfl⟩
    | cons _ _ => simp [kTgs] at h
  | .cons t ts, es, h => by
    cases es with
    | nil => simp [kTgs] at h
    | cons e es =>
      have h' : (isArg e = true ∧ kTg C sc t e = true) ∧ kTgs C sc ts es = true := by simpa [kTgs] using h
      obtain ⟨i1, i2⟩ := onlyNms_len h'.2
      exact ⟨by simp [tgsLen, i1], by simp [allArg, h'.1.1, i2]⟩
theorem kEs_nil {sc : Scope} {ir : Es} (h : kEs C sc ir [] = true) : ir = .nil := by
  cases ir with
  | nil => rfl
  | cons _ _ => simp [kEs] at h
theorem pts_so {G : Gam} {X : Cx} {c : E} {e : Expr} (h : PT X e (LT B (wE c G))) : PTs X [e] (LTt B (wT (.so c) G)) :=
  ⟨fun pins s σ H Q I ⟨r, S, e, F, hS, hO, hw, hf⟩ => (pts_one h).run pins s σ H Q I ⟨r, S, e, F, hS, hO, by simpa only [wT] using hw, hf⟩⟩
theorem pts_no {G : Gam} {X : Cx} : PTs X [] (LTt B (wT .no G)) :=
  ⟨fun pins s σ H Q I ⟨r, S, e, F, hS, hO, hw, hf⟩ => pts_nil.run pins s σ H Q I (hf true S r H (by simpa only [wT] using hw) .refl hS)⟩

mutual
theorem sE : ∀ (ir : E) (B : Bk1) (G : Gam) (X : Cx) (sc : Scope) (e : Expr), XOk C B L G X sc → kE C sc ir e = true → Snd B X e (wE ir G)
  | .var i, B, G, X, sc, e, ok, h => by
    have q := c_var ok h
    simp only [kE] at h
    split at h
    · exact .of q
    · cases h
  | .cst d, B, G, X, sc, e, ok, h => by
    have q := c_cst (B := B) (G := G) (X := X) h
    simp only [kE] at h
    split at h
    · exact .of q
    · cases h
  | .glb k, B, G, X, sc, e, ok, h => by
    have q := c_glb ok h
    simp only [kE] at h
    split at h
    · exact .of q
    · cases h
  | .bin m o a b, B, G, X, sc, e, ok, h => by
    simp only [kE] at h
    split at h
    · simp only [Bool.and_eq_true, decide_eq_true_eq] at h
      obtain ⟨⟨rfl, h1⟩, h2⟩ := h
      exact .of (c_bin ok (sE a B G X sc _ ok h1).pe (sE b B G X sc _ ok h2).pe)
    · cases h
  | .neg a, B, G, X, sc, e, ok, h => by
    simp only [kE] at h
    split at h
    · exact .of (c_neg (sc := sc) (sE a B G X sc _ ok h).pe)
    · cases h
  | .cmp o a b, B, G, X, sc, e, ok, h => by
    simp only [kE] at h
    split at h
    · simp only [Bool.and_eq_true, decide_eq_true_eq, Bool.not_eq_true'] at h
      obtain ⟨⟨⟨rfl, h0⟩, h1⟩, h2⟩ := h
      exact .of2 (c_cmp ok h0 (sE a B G X sc _ ok h1).pe (sE b B G X sc _ ok h2).pe)
    · cases h
  | .cmp2 o p a b c, B, G, X, sc, e, ok, h => by
    simp only [kE] at h
    split at h
    · simp only [Bool.and_eq_true, decide_eq_true_eq, Bool.not_eq_true'] at h
      obtain ⟨⟨⟨⟨⟨⟨rfl, rfl⟩, h0⟩, h00⟩, h1⟩, h2⟩, h3⟩ := h
      exact .of2 (c_cmp2 ok h0 h00 (sE a B G X sc _ ok h1).pe (sE b B G X sc _ ok h2).pe (sE c B G X sc _ ok h3).pe)
    · cases h
  | .and a b, B, G, X, sc, e, ok, h => by
    simp only [kE] at h
    split at h
    · rename_i a' b' pos
      simp only [Bool.and_eq_true] at h
      have ha := sE a B G X sc _ ok h.1
      have hb := sE b B G X sc _ ok h.2
      have w := PW.imp (pw_and (pos := pos) ha.pt (pw_and1 (pos := pos) hb.pt)) fun σ H Q q => s_and q
      exact ⟨PE.imp (pe_and ha.pe (pe_one hb.pe)) fun σ H Q q => t_and q, w.pt, fun _ => w⟩
    · simp only [Bool.and_eq_true] at h
      have ha := sE a B G X sc _ ok h.1
      have hb := sE b B G X sc _ ok h.2
      have w := PW.imp (pw_and ha.pt (hb.pw ⟨_, _, _, rfl⟩)) fun σ H Q q => s_and q
      exact ⟨PE.imp (pe_and ha.pe hb.pe) fun σ H Q q => t_and q, w.pt, fun _ => w⟩
    · cases h
  | .or a b, B, G, X, sc, e, ok, h => by
    simp only [kE] at h
    split at h
    · rename_i a' b' pos
      simp only [Bool.and_eq_true] at h
      have ha := sE a B G X sc _ ok h.1
      have hb := sE b B G X sc _ ok h.2
      have w := PW.imp (pw_or (pos := pos) ha.pt (pw_or1 (pos := pos) hb.pt)) fun σ H Q q => s_or q
      exact ⟨PE.imp (pe_or ha.pe (pe_one hb.pe)) fun σ H Q q => t_or q, w.pt, fun _ => w⟩
    · simp only [Bool.and_eq_true] at h
      have ha := sE a B G X sc _ ok h.1
      have hb := sE b B G X sc _ ok h.2
      have w := PW.imp (pw_or ha.pt (hb.pw ⟨_, _, _, rfl⟩)) fun σ H Q q => s_or q
      exact ⟨PE.imp (pe_or ha.pe hb.pe) fun σ H Q q => t_or q, w.pt, fun _ => w⟩
    · cases h
  | .not a, B, G, X, sc, e, ok, h => by
    simp only [kE] at h
    split at h
    · have ha := sE a B G X sc _ ok h
      exact .of2 ⟨PE.imp (pe_not ha.pe) fun σ H Q q => t_not q, PT.imp (pt_not ha.pt) fun σ H Q q => s_not q⟩
    · cases h
  | .ite c a b, B, G, X, sc, e, ok, h => by
    simp only [kE] at h
    split at h
    · simp only [Bool.and_eq_true] at h
      have hc := sE c B G X sc _ ok h.1.1
      have ha := sE a B G X sc _ ok h.1.2
      have hb := sE b B G X sc _ ok h.2
      exact .of2 ⟨PE.imp (pe_ifExp hc.pt ha.pe hb.pe) fun σ H Q q => t_ite q, PT.imp (pt_ifExp hc.pt ha.pt hb.pt) fun σ H Q q => s_ite q⟩
    · cases h
  | .tup es, B, G, X, sc, e, ok, h => by
    simp only [kE] at h
    split at h
    · exact .of (c_tup (sEs es B G X sc _ ok h).pa)
    · cases h
  | .lst m es, B, G, X, sc, e, ok, h => by
    simp only [kE] at h
    split at h
    · exact .of (c_lst (sEs es B G X sc _ ok h).pa)
    · cases h
  | .ix a i, B, G, X, sc, e, ok, h => by
    simp only [kE] at h
    split at h
    · simp only [Bool.and_eq_true] at h
      exact .of (c_ix ok h.1.1 (sE a B G X sc _ ok h.1.2).pe (sE i B G X sc _ ok h.2).pe)
    · cases h
  | .sl m a lo hi, B, G, X, sc, e, ok, h => by
    simp only [kE] at h
    split at h
    · simp only [Bool.and_eq_true] at h
      exact .of (c_sl ok (sE a B G X sc _ ok h.1.1).pe (sO lo B G X sc _ ok h.1.2) (sO hi B G X sc _ ok h.2))
    · cases h
  | .rv m a, B, G, X, sc, e, ok, h => by
    simp only [kE] at h
    split at h
    · exact .of (c_rv ok (sE a B G X sc _ ok h).pe)
    · cases h
  | .bi f es, B, G, X, sc, e, ok, h => by
    simp only [kE] at h
    split at h
    · rename_i x p e' es' pos
      simp only [Bool.and_eq_true, beq_iff_eq] at h
      obtain ⟨⟨⟨⟨h1, h2⟩, h3⟩, h4⟩, hh⟩ := h
      have ha := kEs_args h4
      have ha' : isArg e' = true ∧ allArg es' = true := by simpa [allArg] using ha
      exact .of (c_bi ok (by simpa using hh) h1 h2 h3 ha'.1 ha'.2 (sEs es B G X sc _ ok h4).pa)
    · cases h
  | .bl m f es, B, G, X, sc, e, ok, h => by
    simp only [kE] at h
    split at h
    · rename_i x p e' es' pos
      simp only [Bool.and_eq_true, beq_iff_eq] at h
      obtain ⟨⟨⟨h1, h2⟩, h3⟩, h4⟩ := h
      have ha := kEs_args h4
      have ha' : isArg e' = true ∧ allArg es' = true := by simpa [allArg] using ha
      exact .of (c_bl ok h1 h2 h3 ha'.1 ha'.2 (sEs es B G X sc _ ok h4).pa)
    · cases h
  | .call k es, B, G, X, sc, e, ok, h => by
    simp only [kE] at h
    split at h
    · rename_i x p es' pos
      simp only [Bool.and_eq_true, Bool.not_eq_true'] at h
      obtain ⟨⟨⟨h1, h2⟩, h3⟩, hh⟩ := h
      split at h2
      · rename_i y ps pats hC
        simp only [Bool.and_eq_true, beq_iff_eq, decide_eq_true_eq] at h2
        obtain ⟨rfl, h4⟩ := h2
        cases es' with
        | nil =>
          have := kEs_nil h3
          subst this
          exact .of (c_call0 ok hh hC h1 h4)
        | cons e0 es0 => exact .of (c_call ok hh hC h1 h4 (kEs_args h3) (sEs es B G X sc _ ok h3).pa)
      · cases h2
    · cases h
  | .callK k pm es ks, B, G, X, sc, e, ok, h => by
    simp only [kE] at h
    split at h
    · rename_i x p es' kw kws pos
      simp only [Bool.and_eq_true, Bool.not_eq_true'] at h
      obtain ⟨⟨⟨⟨h1, h2⟩, h3⟩, h4⟩, hh⟩ := h
      split at h2
      · rename_i y ps pats ns hC hns
        simp only [Bool.and_eq_true, beq_iff_eq, decide_eq_true_eq, List.any_eq_true] at h2
        obtain ⟨⟨rfl, ⟨⟨q1, q2⟩, hm, e1, e2⟩⟩, h5⟩ := h2
        simp only at e1 e2
        subst e1 e2
        exact .of (c_callK ok hh hC h1 hm hns h5 (kEs_args h3) (sEs es B G X sc _ ok h3).pa ((sEs ks B G X sc _ ok h4).pk _ rfl) (kwNames_len hns) fun z => by subst z; exact kEs_nil h3)
      · cases h2
    · cases h
  | .callS k n a, B, G, X, sc, e, ok, h => by
    simp only [kE] at h
    split at h
    · rename_i x p a' sp pos
      simp only [Bool.and_eq_true, Bool.not_eq_true'] at h
      obtain ⟨⟨⟨h1, h2⟩, h3⟩, hh⟩ := h
      split at h2
      · rename_i y ps pats hC
        simp only [Bool.and_eq_true, beq_iff_eq, decide_eq_true_eq] at h2
        obtain ⟨rfl, rfl⟩ := h2
        exact .of (c_callS ok hh hC h1 (sE a B G X sc _ ok h3).pe)
      · cases h2
    · cases h
  | .me f o es, B, G, X, sc, e, ok, h => by
    simp only [kE] at h
    split at h
    · simp only [Bool.and_eq_true, beq_iff_eq, decide_eq_true_eq] at h
      obtain ⟨⟨⟨⟨⟨h1, h2⟩, h3⟩, h4⟩, h5⟩, h6⟩ := h
      exact .of (c_me ok h1 (beq_iff_eq.mpr h2) h3 (kEs_args h6) h4 (sE o B G X sc _ ok h5).pe (sEs es B G X sc _ ok h6).pa fun z => by subst z; exact kEs_nil h6)
    · cases h
  | .lc m elt t it c vs, B, G, X, sc, e, ok, h => by
    unfold kE at h
    split at h
    · rename_i elt' t' it' ifs' scope pos
      simp only [Bool.and_eq_true, Bool.not_eq_true', List.all_eq_true] at h
      obtain ⟨⟨⟨⟨⟨⟨⟨⟨⟨h1, h2⟩, h3⟩, h4⟩, h5⟩, h6⟩, h7⟩, h8⟩, h9⟩, hh⟩ := h
      have bo := blkOk_by h1
      have bo' : BlkOk X.N X.env.scope scope (vs.map fun i => (C.N.getD i "", i)) := by
        refine ⟨bo.kind, bo.uniq, by rw [ok.hN]; exact bo.ix, fun y hy hf => ?_, by rw [ok.hN]; exact bo.own⟩
        rcases bo.free y hy hf with q | q
        · exact .inl (ok.keep q (by decide))
        · rcases ok.rel y.1 _ q with z | ⟨_, z⟩
          · exact .inr z
          · exact .inl z
      have ebl : (vs.map fun i => (C.N.getD i "", i)).map (·.2) = vs := by rw [List.map_map]; simp [Function.comp_def]
      have ifsS : ∀ (s : Shared) (H : Hp) (Cc : Addr) (cl : List (Str × Addr)) (fp : List Addr), PTs (X.blk s H scope (compEnvC scope cl Cc X.env) fp) ifs' (LTt B (wT c G.nox)) := by
        intro s H Cc cl fp
        match c, ifs', h8 with
        | .no, [], _ => exact pts_no
        | .so c, [c'], h8 => exact pts_so (sE c B G.nox _ scope c' (ok.blk bo s H Cc cl fp) h8).pt
      have pe := pe_lc (pos := pos) (ok.calm hh) (by rw [ok.hN]; exact ok.nd) (sIt it B G X sc it' t' ok h3 h9) bo' (fun s H Cc cl fp => sTg t B G.nox _ scope t' (ok.blk bo s H Cc cl fp) h6) ifsS
        (fun s H Cc cl fp => (sE elt B G.nox _ scope elt' (ok.blk bo s H Cc cl fp) h7).pe) (folded_of h2)
      rw [ebl] at pe
      refine .of (PE.imp pe fun σ H Q q => ?_)
      exact c_lc ok h1 h2 (fun i hi => by simpa using h5 i hi) (sIt it B G X sc it' t' ok h3 h9) (fun s H Cc cl fp => sTg t B G.nox _ scope t' (ok.blk bo s H Cc cl fp) h6) ifsS
        (fun s H Cc cl fp => (sE elt B G.nox _ scope elt' (ok.blk bo s H Cc cl fp) h7).pe) q
    · cases h
  | .dvl m o, B, G, X, sc, e, ok, h => by
    simp only [kE] at h
    split at h
    · rename_i x name o' l he
      obtain ⟨p, apos, cpos, pos, rfl, rfl⟩ := lvOf_some he
      simp only [Bool.and_eq_true, beq_iff_eq] at h
      obtain ⟨⟨⟨⟨⟨⟨⟨h1, h2⟩, h3⟩, h4⟩, h5⟩, h6⟩, h7⟩, hh⟩ := h
      exact .of (c_dvl ok (by simpa using hh) h1 h2 h3 h4 (beq_iff_eq.mpr h5) h6 (sE o B G X sc _ ok h7).pe)
    · cases h
  | .lcd m kd i elt t c vs, B, G, X, sc, e, ok, h => by
    simp only [kE] at h
    split at h
    · rename_i elt' t' it' ifs' scope he
      obtain ⟨pos, rfl⟩ := lcOf_some he
      simp only [Bool.and_eq_true, Bool.not_eq_true', List.all_eq_true] at h
      obtain ⟨⟨⟨⟨⟨⟨⟨⟨h1, h2⟩, h3⟩, h4⟩, h5⟩, h6⟩, h7⟩, h8⟩, hh⟩ := h
      have bo := blkOk_by h1
      have bo' : BlkOk X.N X.env.scope scope (vs.map fun i => (C.N.getD i "", i)) := by
        refine ⟨bo.kind, bo.uniq, by rw [ok.hN]; exact bo.ix, fun y hy hf => ?_, by rw [ok.hN]; exact bo.own⟩
        rcases bo.free y hy hf with q | q
        · exact .inl (ok.keep q (by decide))
        · rcases ok.rel y.1 _ q with z | ⟨_, z⟩
          · exact .inr z
          · exact .inl z
      have ebl : (vs.map fun i => (C.N.getD i "", i)).map (·.2) = vs := by rw [List.map_map]; simp [Function.comp_def]
      refine .of (pe_lcd (fun i hi => by simpa using h5 i hi) fun r0 H0 => ?_)
      have ok0 : XOk C ⟨B.toBk, r0, H0⟩ L G.nox X sc := ok.nx r0 H0
      have ifsS : ∀ (s : Shared) (H : Hp) (Cc : Addr) (cl : List (Str × Addr)) (fp : List Addr), PTs (X.blk s H scope (compEnvC scope cl Cc X.env) fp) ifs' (LTt ⟨B.toBk, r0, H0⟩ (wT c G.nox)) := by
        intro s H Cc cl fp
        match c, ifs', h8 with
        | .no, [], _ => exact pts_no
        | .so c, [c'], h8 => exact pts_so (sE c ⟨B.toBk, r0, H0⟩ G.nox _ scope c' (ok0.blk bo s H Cc cl fp) h8).pt
      have pe := pe_lc (pos := pos) (ok.calm hh) (by rw [ok.hN]; exact ok.nd) (pi_dc ok h3) bo' (fun s H Cc cl fp => sTg t ⟨B.toBk, r0, H0⟩ G.nox _ scope t' (ok0.blk bo s H Cc cl fp) h6) ifsS
        (fun s H Cc cl fp => (sE elt ⟨B.toBk, r0, H0⟩ G.nox _ scope elt' (ok0.blk bo s H Cc cl fp) h7).pe) (folded_of h2)
      rw [ebl] at pe
      exact pe
    · cases h
  | .lr m es, B, G, X, sc, e, ok, h => by
    simp only [kE] at h
    split at h
    · rename_i x p y p2 e' es' p3 p4
      simp only [Bool.and_eq_true, beq_iff_eq, decide_eq_true_eq] at h
      obtain ⟨⟨⟨⟨⟨⟨⟨⟨rfl, h1⟩, h2⟩, rfl⟩, h3⟩, h4⟩, h5⟩, h6⟩, hh⟩ := h
      exact .of (c_lr ok (by simpa using hh) h1 h2 h3 h4 h5 (kEs_args h6) (sEs es B G X sc _ ok h6).pa)
    · cases h
  | .mxd a d, B, G, X, sc, e, ok, h => by
    simp only [kE] at h
    split at h
    · simp only [Bool.and_eq_true, beq_iff_eq] at h
      obtain ⟨⟨⟨⟨⟨⟨⟨rfl, h1⟩, h2⟩, rfl⟩, h3⟩, h4⟩, h5⟩, hh⟩ := h
      exact .of (c_mxd ok (by simpa using hh) h1 h2 h3 (sE a B G X sc _ ok h4).pe (sE d B G X sc _ ok h5).pe)
    · cases h
  | .isi a T, B, G, X, sc, e, ok, h => by
    simp only [kE] at h
    split at h
    · simp only [Bool.and_eq_true, beq_iff_eq] at h
      obtain ⟨⟨⟨⟨⟨⟨⟨⟨rfl, h1⟩, h2⟩, h3⟩, rfl⟩, h4⟩, h5⟩, h6⟩, h7⟩ := h
      exact .of (c_isi ok h1 h2 h3 h4 h5 h6 (sE a B G X sc _ ok h7).pe)
    · cases h
  | .xat a f, B, G, X, sc, e, ok, h => by
    simp only [kE] at h
    split at h
    · simp only [Bool.and_eq_true, beq_iff_eq] at h
      obtain ⟨⟨⟨rfl, h1⟩, h2⟩, h3⟩ := h
      exact .of (c_xat ok h1 h2 (sE a B G X sc _ ok h3).pe)
    · cases h
  | .xis a tb, B, G, X, sc, e, ok, h => by
    simp only [kE] at h
    split at h
    · simp only [Bool.and_eq_true, beq_iff_eq] at h
      obtain ⟨⟨⟨⟨⟨⟨rfl, h1⟩, h2⟩, h3⟩, h4⟩, h5⟩, h6⟩ := h
      exact .of (c_xis ok h1 h2 h3 h4 h5 (sE a B G X sc _ ok h6).pe)
    · cases h
  | .xit a tbs, B, G, X, sc, e, ok, h => by
    simp only [kE] at h
    split at h
    · simp only [Bool.and_eq_true, beq_iff_eq] at h
      obtain ⟨⟨⟨⟨⟨⟨⟨rfl, h1⟩, h2⟩, h3⟩, h4⟩, h5⟩, h6⟩, h7⟩ := h
      split at h5
      · simp only [Bool.and_eq_true] at h5
        exact .of (c_xit ok h1 h2 h3 h4 h5.1 h5.2 h6 (sE a B G X sc _ ok h7).pe)
      · cases h5
    · cases h
  | .dsp m ks es, B, G, X, sc, e, ok, h => by
    simp only [kE] at h
    split at h
    · simp only [Bool.and_eq_true, decide_eq_true_eq] at h
      obtain ⟨⟨⟨⟨h1, h2⟩, h3⟩, h4⟩, h5⟩ := h
      exact .of (c_dsp h1 h2 h3 h4 (sEp es B G X sc _ ok h5))
    · cases h
  | .kin neg a x zs, B, G, X, sc, e, ok, h => by
    simp only [kE] at h
    split at h
    · simp only [Bool.and_eq_true, beq_iff_eq, decide_eq_true_eq] at h
      obtain ⟨⟨⟨⟨rfl, h1⟩, h2⟩, h3⟩, h4⟩ := h
      exact .of2 (c_kin ok h3 h1 h2 (sE a B G X sc _ ok h4).pe)
    · cases h
  | .sm f o es, B, G, X, sc, e, ok, h => by
    simp only [kE] at h
    split at h
    · simp only [Bool.and_eq_true, beq_iff_eq, decide_eq_true_eq] at h
      obtain ⟨⟨⟨⟨⟨h1, h2⟩, h3⟩, h4⟩, h5⟩, h6⟩ := h
      exact .of (c_sm ok h1 (beq_iff_eq.mpr h2) h3 (kEs_args h6) h4 (sE o B G X sc _ ok h5).pe (sEs es B G X sc _ ok h6).pa fun z => by subst z; exact kEs_nil h6)
    · cases h
  | .fs es, B, G, X, sc, e, ok, h => by
    simp only [kE] at h
    split at h
    · obtain ⟨ts, q⟩ := sFp es B G X sc _ ok h
      exact .of (c_fs q)
    · cases h
  | .fld a f cs, B, G, X, sc, e, ok, h => by
    simp only [kE] at h
    split at h
    · simp only [Bool.and_eq_true, beq_iff_eq] at h
      obtain ⟨⟨⟨rfl, h1⟩, h2⟩, h3⟩ := h
      exact .of (c_fld ok h1 h2 (sE a B G X sc _ ok h3).pe)
    · cases h
  | .mth tb m o es ks, B, G, X, sc, e, ok, h => by
    simp only [kE] at h
    split at h
    · rename_i o' name apos es' kws pos
      simp only [Bool.and_eq_true, Bool.not_eq_true', beq_iff_eq, bne_iff_ne, decide_eq_true_eq] at h
      obtain ⟨⟨⟨⟨⟨⟨⟨⟨⟨⟨rfl, h1⟩, h2⟩, h3⟩, h4⟩, h5⟩, h6⟩, h7⟩, h8⟩, h9⟩, hh⟩ := h
      split at h6
      · rename_i ns hns
        exact .of (c_mth ok hh h1 (by rw [beq_iff_eq]; exact h2) h3 (kEs_args h8) h4 h5 hns h6 (sE o B G X sc _ ok h7).pe (sEs es B G X sc _ ok h8).pa ((sEs ks B G X sc _ ok h9).pk _ rfl) (kwNames_len hns) fun z => by subst z; exact kEs_nil h8)
      · cases h6
    · cases h
  | .mkc k c pm es ks, B, G, X, sc, e, ok, h => by
    simp only [kE] at h
    split at h
    · rename_i x p es' kws pos
      simp only [Bool.and_eq_true, Bool.not_eq_true', beq_iff_eq] at h
      obtain ⟨⟨⟨⟨⟨rfl, h1⟩, h2⟩, h3⟩, h4⟩, hh⟩ := h
      split at h2
      · rename_i y ps pats ns hC hns
        simp only [Bool.and_eq_true, beq_iff_eq, decide_eq_true_eq] at h2
        exact .of (c_mkc ok hh hC h1 h2.1.1 h2.1.2 hns h2.2 (kEs_args h3) (sEs es B G X sc _ ok h3).pa ((sEs ks B G X sc _ ok h4).pk _ rfl) (kwNames_len hns) fun z => by subst z; exact kEs_nil h3)
      · cases h2
    · cases h
/-- each part -/
theorem sFp : ∀ (ir : Es) (B : Bk1) (G : Gam) (X : Cx) (sc : Scope) (es : List Expr), XOk C B L G X sc → kFs C sc ir es = true → ∃ ts, EachF B X G ir es ts
  | .nil, B, G, X, sc, es, ok, h => by
    cases es with
    | nil => exact ⟨[], rfl, rfl⟩
    | cons _ _ => simp [kFs] at h
  | .cons a r, B, G, X, sc, es, ok, h => by
    simp only [kFs] at h
    split at h
    · simp only [Bool.and_eq_true, decide_eq_true_eq] at h
      obtain ⟨⟨rfl, h1⟩, h2⟩ := h
      obtain ⟨ts, q⟩ := sFp r B G X sc _ ok h2
      exact ⟨_ :: ts, pe_fmt (sE a B G X sc _ ok h1).pe, .inl rfl, q⟩
    · rename_i y k p r'
      simp only [Bool.and_eq_true] at h
      obtain ⟨h1, h2⟩ := h
      obtain ⟨ts, q⟩ := sFp r B G X sc _ ok h2
      have ha : a = .cst (.str y) := by
        cases a <;> simp [kE, lvOf, lcOf] at h1
        rename_i d
        cases d <;> simp [cstB] at h1
        subst h1
        rfl
      exact ⟨_ :: ts, pe_str, .inr ⟨y, ha, rfl⟩, q⟩
    · cases h
/-- each element -/
theorem sEp : ∀ (ir : Es) (B : Bk1) (G : Gam) (X : Cx) (sc : Scope) (es : List Expr), XOk C B L G X sc → kEs C sc ir es = true → EachP B X G ir es
  | .nil, B, G, X, sc, es, ok, h => by
    cases es with
    | nil => rfl
    | cons _ _ => simp [kEs] at h
  | .cons a r, B, G, X, sc, es, ok, h => by
    cases es with
    | nil => simp [kEs] at h
    | cons e es =>
      have h' : (isArg e = true ∧ kE C sc a e = true) ∧ kEs C sc r es = true := by simpa [kEs] using h
      exact ⟨(sE a B G X sc e ok h'.1.2).pe, sEp r B G X sc es ok h'.2⟩
theorem sEs : ∀ (ir : Es) (B : Bk1) (G : Gam) (X : Cx) (sc : Scope) (es : List Expr), XOk C B L G X sc → kEs C sc ir es = true → SndA B X es (wEs ir G)
  | .nil, B, G, X, sc, es, ok, h => by
    cases es with
    | nil => exact ⟨pa_nil', fun kws hk => by
        cases kws with
        | nil => exact pk_nil'
        | cons k _ => obtain ⟨n, v, p⟩ := k; simp [kwVals] at hk⟩
    | cons _ _ => simp [kEs] at h
  | .cons a r, B, G, X, sc, es, ok, h => by
    cases es with
    | nil => simp [kEs] at h
    | cons e es =>
      have h' : (isArg e = true ∧ kE C sc a e = true) ∧ kEs C sc r es = true := by simpa [kEs] using h
      have ha := sE a B G X sc e ok h'.1.2
      have hr := sEs r B G X sc es ok h'.2
      refine ⟨pa_cons' h'.1.1 ha.pe hr.pa, fun kws hk => ?_⟩
      cases kws with
      | nil => simp [kwVals] at hk
      | cons k kws =>
        obtain ⟨n, v, p⟩ := k
        simp only [kwVals, List.cons.injEq] at hk
        obtain ⟨rfl, hk⟩ := hk
        exact pk_cons' ha.pe (hr.pk kws hk)
theorem sO : ∀ (ir : Oe) (B : Bk1) (G : Gam) (X : Cx) (sc : Scope) (e : Option Expr), XOk C B L G X sc → kO C sc ir e = true → PO X e (LO B (wO ir G))
  | .no, B, G, X, sc, e, ok, h => by
    cases e with
    | none => exact po_no
    | some _ => simp [kO] at h
  | .so a, B, G, X, sc, e, ok, h => by
    cases e with
    | none => simp [kO] at h
    | some e => exact po_so (sE a B G X sc e ok (by simpa [kO] using h)).pe
theorem sIt : ∀ (ir : M.It) (B : Bk1) (G : Gam) (X : Cx) (sc : Scope) (e tg : Expr), XOk C B L G X sc → kIt C sc ir e = true → itTg ir tg = true → PI X tg e (LI B (wIt ir G))
  | .seq a, B, G, X, sc, e, tg, ok, h, _ => i_seq ok (sE a B G X sc e ok (by simpa [kIt] using h)).pe
  | .rng es, B, G, X, sc, e, tg, ok, h, _ => by
    simp only [kIt] at h
    split at h
    · rename_i x p es' pos
      simp only [Bool.and_eq_true, beq_iff_eq] at h
      obtain ⟨⟨⟨⟨rfl, h1⟩, h2⟩, h4⟩, h3⟩ := h
      have ha := kEs_args h3
      have q := (sEs es B G X sc es' ok h3).pa
      match es', ha, q with
      | [], _, q => exact ⟨fun pins s σ H R I ⟨r, S, e, F, hS, hO, hw, hf⟩ => by
          have := kEs_nil h3
          subst this
          simp [wIt, wEs, wRng] at hw⟩
      | [e0], ha, q => exact i_rng1 ok h1 h2 (by simpa [allArg] using ha) q
      | [e0, e1], ha, q =>
        have ha' : isArg e0 = true ∧ isArg e1 = true := by simpa [allArg] using ha
        exact i_rng2 ok h1 h2 ha'.1 ha'.2 q
      | e0 :: e1 :: e2 :: r, ha, q => simp at h4; omega
    · cases h
  | .enu a, B, G, X, sc, e, tg, ok, h, ht => by
    simp only [kIt] at h
    split at h
    · simp only [Bool.and_eq_true, beq_iff_eq] at h
      obtain ⟨⟨⟨⟨rfl, h1⟩, h2⟩, h3⟩, h4⟩ := h
      cases tg <;> simp only [itTg, Bool.false_eq_true] at ht
      exact i_enu ok h1 h2 h3 (sE a B G X sc _ ok h4).pe
    · cases h
  | .zip a b, B, G, X, sc, e, tg, ok, h, ht => by
    simp only [kIt] at h
    split at h
    · simp only [Bool.and_eq_true, beq_iff_eq] at h
      obtain ⟨⟨⟨⟨⟨⟨rfl, h1⟩, h2⟩, h3⟩, h4⟩, h5⟩, h6⟩ := h
      cases tg <;> simp only [itTg, Bool.false_eq_true] at ht
      exact i_zip ok h1 h2 h3 h4 (sE a B G X sc _ ok h5).pe (sE b B G X sc _ ok h6).pe
    · cases h
  | .zip3 a b c, B, G, X, sc, e, tg, ok, h, ht => by
    simp only [kIt] at h
    split at h
    · simp only [Bool.and_eq_true, beq_iff_eq] at h
      obtain ⟨⟨⟨⟨⟨⟨⟨⟨rfl, h1⟩, h2⟩, h3⟩, h4⟩, h5⟩, h6⟩, h7⟩, h8⟩ := h
      cases tg <;> simp only [itTg, Bool.false_eq_true] at ht
      exact i_zip3 ok h1 h2 h3 h4 h5 (sE a B G X sc _ ok h6).pe (sE b B G X sc _ ok h7).pe (sE c B G X sc _ ok h8).pe
    · cases h
  | .zipn es, B, G, X, sc, e, tg, ok, h, ht => by
    simp only [kIt] at h
    split at h
    · rename_i x p es' pos
      simp only [Bool.and_eq_true, Bool.or_eq_true, beq_iff_eq, decide_eq_true_eq] at h
      obtain ⟨⟨⟨⟨rfl, h1⟩, h2⟩, h3⟩, h4⟩ := h
      have ha := kEs_args h4
      have pa := (sEs es B G X sc es' ok h4).pa
      cases tg <;> simp only [itTg, Bool.false_eq_true] at ht
      rcases h3 with h3 | h3
      · match es', h3, ha, pa with
        | [e1, e2], _, ha, pa =>
          have ha' : isArg e1 = true ∧ isArg e2 = true := by simpa [allArg] using ha
          exact i_zipn2 ok h1 h2 ha'.1 ha'.2 pa
      · match es', h3, ha, pa with
        | [e1, e2, e3, e4], _, ha, pa =>
          have ha' : isArg e1 = true ∧ isArg e2 = true ∧ isArg e3 = true ∧ isArg e4 = true := by simpa [allArg] using ha
          exact i_zipn4 ok h1 h2 ha'.1 ha'.2.1 ha'.2.2.1 ha'.2.2.2 pa
    · cases h
theorem sTg : ∀ (ir : Tg) (B : Bk1) (G : Gam) (X : Cx) (sc : Scope) (e : Expr), XOk C B L G X sc → kTg C sc ir e = true → PG X e (LG B (tgSl ir) (wTg ir G))
  | .nm i, B, G, X, sc, e, ok, h => by
    simp only [kTg] at h
    split at h
    · simp only [Bool.and_eq_true, beq_iff_eq] at h
      exact g_nm ok h.1 h.2
    · cases h
  | .tp ts, B, G, X, sc, e, ok, h => by
    simp only [kTg] at h
    split at h
    · simp only [Bool.and_eq_true, Bool.not_eq_true'] at h
      obtain ⟨h, hh⟩ := h
      obtain ⟨h1, h2⟩ := onlyNms_len h
      exact g_tp ok hh h2 h1 (sTgs ts B G X sc _ ok h)
    · cases h
  | .ix o i, B, G, X, sc, e, ok, h => by
    simp only [kTg] at h
    split at h
    · simp only [Bool.and_eq_true] at h
      exact g_ix ok h.1.1 (sE o B G X sc _ ok h.1.2).pe (sE i B G X sc _ ok h.2).pe
    · cases h
  | .at_ o f cs, B, G, X, sc, e, ok, h => by
    simp only [kTg] at h
    split at h
    · simp only [Bool.and_eq_true, beq_iff_eq] at h
      obtain ⟨⟨rfl, h1⟩, h2⟩ := h
      exact g_at ok h1 (sE o B G X sc _ ok h2).pe
    · cases h
theorem sTgs : ∀ (ir : Tgs) (B : Bk1) (G : Gam) (X : Cx) (sc : Scope) (es : List Expr), XOk C B L G X sc → kTgs C sc ir es = true → PGs X es (LGs B (tgsSl ir) (wTgs ir G))
  | .nil, B, G, X, sc, es, ok, h => by
    cases es with
    | nil => exact gs_nil
    | cons _ _ => simp [kTgs] at h
  | .cons t ts, B, G, X, sc, es, ok, h => by
    cases es with
    | nil => simp [kTgs] at h
    | cons e es =>
      have h' : (isArg e = true ∧ kTg C sc t e = true) ∧ kTgs C sc ts es = true := by simpa [kTgs] using h
      exact gs_cons h'.1.1 (sTg t B G X sc e ok h'.1.2) (sTgs ts B G X sc es ok h'.2)
end
end
end M

set_option Elab.async false
set_option maxRecDepth 100000
set_option maxHeartbeats 16000000
/-! M13: the theorem for statements. -/
namespace M
open PySem L2
open PyProof.Rows hiding St

section
variable {B : Bk1} {C : Ck} {G : Gam} {X : Cx} {sc : Scope} {L : Nat} {σ : L2.St} {H : Hp}
variable {a b c : E} {ea eb ec : Expr} {pos : Pos} {es : List Expr} {ir ks : Es}
/-- what is wanted behind a statement, of both sides -/
structure Lk (B : Bk1) (r : Rg) (H : Hp) (K : Dn) (D : Ends) : Prop where
  nx : ∀ e' S' r' H' σ', K.nx e' S' → Ex r H r' H' → RS B r' S' H' → Ro B r' H' e' σ' → D.nx σ' H'
  bk : ∀ e' S' r' H' σ', K.bk e' S' → Ex r H r' H' → RS B r' S' H' → Ro B r' H' e' σ' → D.bk σ' H'
  ct : ∀ e' S' r' H' σ', K.ct e' S' → Ex r H r' H' → RS B r' S' H' → Ro B r' H' e' σ' → D.ct σ' H'
  rt : ∀ d S' r' H' v, K.rt d S' → Ex r H r' H' → RS B r' S' H' → RV B r' H' d v → D.rt v H'
theorem Lk.trans {r r' : Rg} {H H' : Hp} {K : Dn} {D : Ends} (k : Lk B r H K D) (x : Ex r H r' H') : Lk B r' H' K D :=
  ⟨fun e S r2 H2 σ h y => k.nx e S r2 H2 σ h (x.trans y), fun e S r2 H2 σ h y => k.bk e S r2 H2 σ h (x.trans y), fun e S r2 H2 σ h y => k.ct e S r2 H2 σ h (x.trans y), fun d S r2 H2 v h y => k.rt d S r2 H2 v h (x.trans y)⟩
def LS (B : Bk1) (w : Dn → Env' → Store → Prop) : TS := fun D σ H => ∃ r S e K, RS B r S H ∧ Ro B r H e σ ∧ w K e S ∧ Lk B r H K D
theorem PS.imp {s : Stmt} {t t' : TS} (h : PS X s t) (k : ∀ D σ H, t' D σ H → t D σ H) : PS X s t' := ⟨fun pins s σ H D I q => h.run pins s σ H D I (k _ _ _ q)⟩
theorem PSs.imp {s : List Stmt} {t t' : TS} (h : PSs X s t) (k : ∀ D σ H, t' D σ H → t D σ H) : PSs X s t' := ⟨fun pins s σ H D I q => h.run pins s σ H D I (k _ _ _ q)⟩
theorem FnG.nx {r : Rg} {ns : List Nat} {K : Dn} {D : Ends} (k : Lk B r H K D) : FnG B r H ns σ K.nx D.nx := fun e' S' r' H' σ' h x s o _ => k.nx e' S' r' H' σ' h x s o

theorem sw_plain {e : Expr} {t : Option Expr} {l : Nat} {env : Env} (h : isComp e = false) : swapsWith e t l env = pure false := by
  cases e <;> first | rfl | (simp [isComp] at h)
theorem sw_other {e t : Expr} {l : Nat} {env : Env} (h : ∀ x p, t ≠ .Name x p) : swapsWith e (some t) l env = pure false := by
  cases e <;> first
    | rfl
    | (cases t <;> first | rfl | exact absurd rfl (h _ _))
theorem each_one {e : Expr} {env : Env} (h : isArg e = true) : (assignEach [e] env).map (·.2) = [assign e env] := by
  cases e <;> first | rfl | (simp [isArg] at h)
theorem stores_none {t e : Expr} {env : Env} (h : (isTup t && isTup e) = false) (h2 : isLstE t = false) : swappedStores [t] e env = pure none := by
  cases t <;> first
    | rfl
    | (simp [isLstE] at h2; done)
    | (cases e <;> first | rfl | (simp [isTup] at h))
theorem t_asg {t : Tg} {D : Ends} (q : LS B (wS (.asg t a) G) D σ H) : tAsg (LE B (wE a G)) (LG B (tgSl t) (wTg t G)) D σ H := by
  obtain ⟨r, S, e, K, hS, hO, hw, hk⟩ := q
  simp only [wS] at hw
  exact ⟨r, S, e, _, hS, hO, hw, fun x S1 r1 H1 v k1 x1 s1 hv => ⟨r1, S1, e, x, _, s1, hO.mono x1, hv, k1, FnG.nx (hk.trans x1)⟩⟩
/-- a name's assignment of an expression that is no comprehension stored at once -/
theorem s_asg (hi : isArg ea = true) {et : Expr} (ht : isArg et = true) (hp : (isTup et && isTup ea) = false) (hl : isLstE et = false) {t : Tg} (he : PE X ea (LE B (wE a G))) (hg : PG X et (LG B (tgSl t) (wTg t G))) (hs : swapsWith ea (some et) pos.line X.env = pure false) :
    PS X (.Assign [et] ea pos) (LS B (wS (.asg t a) G)) :=
  PS.imp (ps_asg he hg hs (stores_none hp hl) (each_one ht)) fun D σ H q => t_asg q
def swNm (sc scope : Scope) (x : Str) (p1 p2 : Pos) : Bool := sc.names.lookup x == some .local && p1.line == p2.line && !(scope.names.any fun (n, k) => n == x && (k == .local || k == .cell))
theorem sw_comp {elt : Expr} {gs : List Comprehension} {scope : Scope} {p px : Pos} {x : Str} {l : Nat} (hsc : X.env.scope = sc) (hkd : sc.kind = .function) : swapsWith (.ListComp elt gs scope p) (some (.Name x px)) l X.env = pure (swNm sc scope x px p) := by
  have hb : X.env.blockKind = .function := by unfold Env.blockKind; rw [hsc, hkd]; rfl
  have hk : X.env.kindOf x = sc.names.lookup x := by show X.env.scope.names.lookup x = _; rw [hsc]
  unfold swapsWith swNm
  simp only [hb, hk, Expr.pos]
  rfl
theorem pb_false {p : Bool} (h : p = false) : (pure p : Sem Bool) = pure false := by rw [h]

/-! both sides of an assignment written -/
theorem any_is {vs : List Expr} {f g : Expr → Bool} (h : ∀ e, f e = g e) : vs.any f = vs.any g := by rw [funext h]
theorem nm_is {line : Nat} {f : Expr → Option Str} (h : ∀ e, [e].filterMap f = swNames sc line [e]) : ∀ {ts : List Expr}, ts.filterMap f = swNames sc line ts
  | [] => rfl
  | e :: ts => by
    have h1 : (e :: ts).filterMap f = [e].filterMap f ++ ts.filterMap f := by
      rw [← List.filterMap_append]; rfl
    have h2 : swNames sc line (e :: ts) = swNames sc line [e] ++ swNames sc line ts := by
      unfold swNames
      rw [← List.filterMap_append]; rfl
    rw [h1, h2, h e, nm_is h]
theorem stores_of {ts vs : List Expr} {k1 k2 : Nat} {p1 p2 : Pos} {o : Option (List Str)} (hsc : X.env.scope = sc) (hkd : sc.kind = .function) (h : swB sc ts vs = some o) : swappedStores [.Tuple ts k1 p1] (.Tuple vs k2 p2) X.env = pure o := by
  have hb : X.env.blockKind = .function := by unfold Env.blockKind; rw [hsc, hkd]; rfl
  have hk : ∀ x, X.env.kindOf x = sc.names.lookup x := fun x => by show X.env.scope.names.lookup x = _; rw [hsc]
  unfold swB at h
  unfold swappedStores
  simp only [hb]
  rw [any_is (vs := vs) (g := isStar) (by intro e; cases e <;> rfl), nm_is (sc := sc) (line := (ts.head?.map (·.pos.line)).getD 0) (ts := ts) (by intro e; cases e <;> first | rfl | (simp only [List.filterMap, swNames, hk]))]
  split at h
  · rename_i c
    cases h
    rw [if_pos (by rw [c]; rfl)]
  · rename_i c
    rw [Bool.not_eq_true] at c
    rw [if_neg (by rw [c]; decide)]
    split at h
    · rename_i c2
      cases h
      rw [if_pos c2]
    · rename_i c2
      rw [if_neg c2]
      split at h
      · rename_i c3
        cases h
        rw [if_pos c3]
      · rename_i c3
        rw [if_neg c3]
        split at h
        · rename_i c4
          cases h
          rw [if_pos c4]
        · rename_i c4
          rw [if_neg c4]
          split at h
          · cases h
          · rename_i c5
            cases h
            rw [if_neg c5]
end
end M

set_option Elab.async false
set_option maxRecDepth 100000
set_option maxHeartbeats 16000000
/-! M14: statements, one by one. -/
namespace M
open PySem L2
open PyProof.Rows hiding St

section
variable {B : Bk1} {C : Ck} {G : Gam} {X : Cx} {sc : Scope} {L : Nat} {σ : L2.St} {H : Hp}
variable {a b c : E} {ea eb ec : Expr} {pos : Pos} {es : List Expr} {ir ks : Es}
theorem gName_eq {i : Nat} {v : V} {Q : L2.St → Hp → Prop} : gName i v σ H Q = Q (σ.set i (some v)) H := rfl
/-- a name that is given a comprehension's list at once -/
theorem s_lc (ok : XOk C B L G X sc) (hsc : X.env.scope = sc) {m : Bool} {elt : E} {t : Tg} {it : M.It} {cd : Oe} {vs : List Nat} {elt' : Expr} {gs : List Comprehension} {scope : Scope} {p py : Pos} {y : Str} {i : Nat}
    (h : kE C sc (.lc m elt t it cd vs) (.ListComp elt' gs scope p) = true) (hi : C.N[i]? = some y) (hsw : swNm sc scope y py p = true) :
    PS X (.Assign [.Name y py] (.ListComp elt' gs scope p) pos) (LS B (wS (.asg (.nm i) (.lc m elt t it cd vs)) G)) := by
  have hl : sc.names.lookup y = some .local := by
    unfold swNm at hsw
    simp only [Bool.and_eq_true, beq_iff_eq] at hsw
    exact hsw.1.1
  unfold kE at h
  split at h
  · rename_i elt2 t' it' ifs' scope2 pos2 heq
    cases heq
    simp only [Bool.and_eq_true, Bool.not_eq_true', List.all_eq_true] at h
    obtain ⟨⟨⟨⟨⟨⟨⟨⟨⟨h1, h2⟩, h3⟩, h4⟩, h5⟩, h6⟩, h7⟩, h8⟩, h9⟩, hh⟩ := h
    have bo := blkOk_by h1
    have bo' : BlkOk X.N X.env.scope scope (vs.map fun i => (C.N.getD i "", i)) := by
      rw [ok.hN, hsc]; exact bo
    have ebl : (vs.map fun i => (C.N.getD i "", i)).map (·.2) = vs := by rw [List.map_map]; simp [Function.comp_def]
    have ifsS : ∀ (s : Shared) (H : Hp) (Cc : Addr) (cl : List (Str × Addr)) (fp : List Addr), PTs (X.blk s H scope (compEnvC scope cl Cc X.env) fp) ifs' (LTt B (wT cd G.nox)) := by
      intro s H Cc cl fp
      match cd, ifs', h8 with
      | .no, [], _ => exact pts_no
      | .so c, [c'], h8 => exact pts_so (sE c B G.nox _ scope c' (ok.blk bo s H Cc cl fp) h8).pt
    have pe := ps_setLc (i := i) (y := y) (py := py) (pos := p) (spos := pos) (elt := elt') (ok.calm hh) (by rw [ok.hN]; exact ok.nd) (by rw [ok.hN]; exact hi) (by rw [hsc]; exact hl)
      (by rw [sw_comp hsc ok.kd, hsw]) (sIt it B G X sc it' t' ok h3 h9) bo' (fun s H Cc cl fp => sTg t B G.nox _ scope t' (ok.blk bo s H Cc cl fp) h6) ifsS
      (fun s H Cc cl fp => (sE elt B G.nox _ scope elt' (ok.blk bo s H Cc cl fp) h7).pe) (folded_of h2)
    rw [ebl] at pe
    refine PS.imp pe fun D σ H q => ?_
    obtain ⟨r, S, e, K, hS, hO, hw, hk⟩ := q
    simp only [wS] at hw
    refine c_lc ok h1 h2 (fun i hi => by simpa using h5 i hi) (sIt it B G X sc it' t' ok h3 h9) (fun s H Cc cl fp => sTg t B G.nox _ scope t' (ok.blk bo s H Cc cl fp) h6) ifsS
      (fun s H Cc cl fp => (sE elt B G.nox _ scope elt' (ok.blk bo s H Cc cl fp) h7).pe) ⟨r, S, e, _, hS, hO, hw, fun x S1 r1 H1 v k1 x1 s1 hv => ?_⟩
    simp only [wTg] at k1
    exact hk.nx _ S1 r1 H1 _ k1 x1 s1 ((hO.mono x1).set hv)
  · cases h

theorem kE_comp (hd : isLcd a = false) (h : kE C sc a ea = true) (hc : isComp ea = true) : ∃ m elt t it cd vs elt' gs scope p, a = .lc m elt t it cd vs ∧ ea = .ListComp elt' gs scope p := by
  cases ea <;> first
    | (simp [isComp] at hc; done)
    | skip
  · cases a <;> first
      | (simp [kE, lvOf] at h; done)
      | exact ⟨_, _, _, _, _, _, _, _, _, _, rfl, rfl⟩
      | (simp [isLcd] at hd; done)
  all_goals (cases a <;> simp [kE, lvOf, lcOf] at h)
theorem s_asgAny (ok : XOk C B L G X sc) (hsc : X.env.scope = sc) {t : Tg} {et : Expr} (ht : isArg et = true) (hp : (isTup et && isTup ea) = false) (hl : isLstE et = false) (h1 : kTg C sc t et = true) (h0 : isLcd a = false) (h2 : kE C sc a ea = true) :
    PS X (.Assign [et] ea pos) (LS B (wS (.asg t a) G)) := by
  have hg := sTg t B G X sc et ok h1
  have he := (sE a B G X sc ea ok h2).pe
  have go : swapsWith ea (some et) pos.line X.env = pure false → PS X (.Assign [et] ea pos) (LS B (wS (.asg t a) G)) := fun hs =>
    PS.imp (ps_asg he hg hs (stores_none hp hl) (each_one ht)) fun D σ H q => t_asg q
  by_cases hc : isComp ea = true
  · by_cases hn : ∃ x p, et = .Name x p
    · obtain ⟨x, px, rfl⟩ := hn
      obtain ⟨m, elt, t2, it, cd, vs, elt', gs, scope, p, rfl, rfl⟩ := kE_comp h0 h2 hc
      cases hw : swNm sc scope x px p with
      | false => exact go (by rw [sw_comp hsc ok.kd, hw])
      | true =>
        cases t with
        | nm i =>
          simp only [kTg, Bool.and_eq_true, beq_iff_eq] at h1
          exact s_lc ok hsc h2 h1.1 hw
        | tp _ => simp [kTg] at h1
        | ix _ _ => simp [kTg] at h1
        | at_ _ _ _ => simp [kTg] at h1
    · exact go (sw_other fun x p e => hn ⟨x, p, e⟩)
  · rw [Bool.not_eq_true] at hc
    exact go (sw_plain hc)

/-! a, b = x, y -/
theorem s_par (ok : XOk C B L G X sc) (hh : C.hot = false) (hsc : X.env.scope = sc) {ts : Tgs} {ets : List Expr} {k1 k2 : Nat} {p1 p2 : Pos} (h1 : kTgs C sc ts ets = true) (h2 : kEs C sc ir es = true) (hn : ets.length = es.length)
    (hw : swB sc ets es = some none) : PS X (.Assign [.Tuple ets k1 p1] (.Tuple es k2 p2) pos) (LS B (wS (.par ts ir) G)) := by
  obtain ⟨q1, q2⟩ := onlyNms_len h1
  refine PS.imp (ps_asg (pe_tup (sEs ir B G X sc es ok h2).pa) (g_tp ok hh q2 q1 (sTgs ts B G X sc ets ok h1)) rfl (stores_of hsc ok.kd hw) rfl) fun K' σ H q => ?_
  obtain ⟨r, S, e, K, hS, hO, hw, hk⟩ := q
  simp only [wS] at hw
  refine ⟨r, S, e, _, hS, hO, hw, fun ds S1 r1 H1 vs hn' hk1 x1 s1 hv => ?_⟩
  have hf : Fn B r1 H1 (fun x S2 => wTg (.tp ts) G x e S2 K.nx) (fun x H2 => LG B (tgSl (.tp ts)) (wTg (.tp ts) G) x σ H2 K'.nx) := fun x S2 r2 H2 v k2 x2 s2 hv2 => ⟨r2, S2, e, x, _, s2, hO.mono (x1.trans x2), hv2, k2, FnG.nx (hk.trans (x1.trans x2))⟩
  refine ⟨by rw [← hv.length]; exact hk1.1, hf.tup s1 ?_ hv⟩
  simp only [wTg]
  exact ⟨by omega, hk1.2⟩
theorem rv2 {r : Rg} {ds : List D} {vs : List V} (h : RVs B r H ds vs) (hn : ds.length = 2) : ∃ d1 d2 v1 v2, ds = [d1, d2] ∧ vs = [v1, v2] ∧ RV B r H d1 v1 ∧ RV B r H d2 v2 := by
  cases h with
  | nil => simp at hn
  | cons h1 h2 =>
    cases h2 with
    | nil => simp at hn
    | cons h2 h3 =>
      cases h3 with
      | nil => exact ⟨_, _, _, _, rfl, rfl, h1, h2⟩
      | cons _ _ => simp at hn
theorem rv3 {r : Rg} {ds : List D} {vs : List V} (h : RVs B r H ds vs) (hn : ds.length = 3) : ∃ d1 d2 d3 v1 v2 v3, ds = [d1, d2, d3] ∧ vs = [v1, v2, v3] ∧ RV B r H d1 v1 ∧ RV B r H d2 v2 ∧ RV B r H d3 v3 := by
  cases h with
  | nil => simp at hn
  | cons h1 h2 =>
    obtain ⟨d2, d3, v2, v3, rfl, rfl, q2, q3⟩ := rv2 h2 (by simpa using hn)
    exact ⟨_, _, _, _, _, _, rfl, rfl, h1, q2, q3⟩
theorem s_par2 (ok : XOk C B L G X sc) (hh : C.hot = false) (hsc : X.env.scope = sc) {i j : Nat} {x y : Str} {px py : Pos} {o : List Str} {k1 k2 : Nat} {p1 p2 : Pos} (h1 : kTgs C sc (.cons (.nm i) (.cons (.nm j) .nil)) [.Name x px, .Name y py] = true) (h2 : kEs C sc ir es = true)
    (hn : [Expr.Name x px, .Name y py].length = es.length) (hw : swB sc [.Name x px, .Name y py] es = some (some o)) (hij : i ≠ j) (hx : sc.names.lookup x = some .local) (hy : sc.names.lookup y = some .local) :
    PS X (.Assign [.Tuple [.Name x px, .Name y py] k1 p1] (.Tuple es k2 p2) pos) (LS B (wS (.par (.cons (.nm i) (.cons (.nm j) .nil)) ir) G)) := by
  simp only [kTgs, kTg, Bool.and_eq_true, beq_iff_eq, List.isEmpty_nil] at h1
  obtain ⟨⟨_, hi, _⟩, ⟨_, hj, _⟩, _⟩ := h1
  obtain ⟨ea, eb, rfl⟩ : ∃ ea eb, es = [ea, eb] := by
    match es, hn with
    | [ea, eb], _ => exact ⟨_, _, rfl⟩
  have ho : o = [x, y] := by
    unfold swB at hw
    split at hw
    · cases hw
    · split at hw
      · cases hw
      · split at hw
        · cases hw
        · split at hw
          · cases hw
          · split at hw
            · cases hw
            · rename_i c3 _ _
              cases hw
              have hl : (swNames sc (([Expr.Name x px, .Name y py].head?.map (·.pos.line)).getD 0) [.Name x px, .Name y py]).length = 2 := by
                simp only [Bool.or_eq_true, bne_iff_ne, ne_eq, not_or, Decidable.not_not] at c3
                exact c3.1
              revert hl
              unfold swNames
              simp only [List.filterMap]
              split <;> split <;> simp_all
              all_goals (split at * <;> simp_all)
  subst ho
  refine PS.imp (ps_par (ok.calm hh) (by rw [ok.hN]; exact ok.nd) (by rw [ok.hN]; exact hi) (by rw [ok.hN]; exact hj) hij (by rw [hsc]; exact hx) (by rw [hsc]; exact hy) (sEs ir B G X sc _ ok h2).pa (stores_of hsc ok.kd hw) rfl) fun K' σ H q => ?_
  obtain ⟨r, S, e, K, hS, hO, hw, hk⟩ := q
  simp only [wS] at hw
  refine ⟨r, S, e, _, hS, hO, hw, fun ds S1 r1 H1 vs hn' hk1 x1 s1 hv => ?_⟩
  obtain ⟨d1, d2, v1, v2, rfl, rfl, q1, q2⟩ := rv2 hv hn'
  simp only [wTgs, wTg] at hk1
  exact ⟨v1, v2, rfl, hk.nx _ S1 r1 H1 _ hk1.2.2 x1 s1 (((hO.mono x1).set q1).set q2)⟩
end
end M

set_option Elab.async false
set_option maxRecDepth 100000
set_option maxHeartbeats 8000000
/-! MT: a try whose first clause takes all that its body raises. -/
namespace M
open PySem L2
open PyProof.Rows hiding St
/-- what the first clause wishes: it is the exception's -/
def wT2 (K : PySem.W.Frag) (c : Value) (i : Nat) (ts : Addr → Value → Option Addr → TS) (D : Ends) : WX := fun cls d τ J =>
  PySem.W.exmOne K cls c = some true ∧ ∀ z, J z = none → ts z cls d { nx := fun u v => D.nx (u.set i none) v, rt := D.rt, bk := fun u v => D.bk (u.set i none) v, ct := fun u v => D.ct (u.set i none) v } (τ.set i (some (.ref z))) J
section
variable {X : Cx} {y nm : Str} {c : Value} {i : Nat} {bd su : List Stmt} {rest : List ExceptHandler} {st : Stmt} {p1 p2 p3 : Pos} {tb : WX → TS} {ts : Addr → Value → Option Addr → TS} {Wo : WX}
theorem ps_try2 (h1 : X.stack = X.env :: X.outer) (h2 : X.env.frame = some X.env.locals) (h3 : X.N.Nodup) (h4 : X.N[i]? = some nm) (h5 : X.env.kindOf nm = some .local) (h6 : Names X y c)
    (hbd : ∀ (V : WX) (pn : List (Addr × Obj)) (xe : Value → Shared → Prop), Takes (X.tr pn xe) V → PassesOwn (model X.prog X.w) X.A X.env xe → PSs (X.tr pn xe) bd (tb V))
    (hst : ∀ (z : Addr) (oz : Obj) (cls : Value) (d : Option Addr) (pn : List (Addr × Obj)), Zc cls d oz → (∃ fv, oz.data = .fields fv) → PSs (X.suite z ((z, oz) :: pn)) (st :: su) (ts z cls d)) :
    PS X (.Try bd (.ExceptHandler (some (.Name y p1)) (some nm) (st :: su) p2 :: rest) [] [] p3) (fun D τ J => tb (wT2 X.K c i ts D) D τ J) := by
  refine ⟨fun pins s τ J D I w => ?_⟩
  have iok := I.ok
  have frA : X.A.frames = some (X.env :: X.outer) := by rw [iok.frames, h1]
  have lN : Loc X.env.scope nm := .inl h5
  refine wpAny_Try_except ?_
  refine wpAny_mono ((hbd (wT2 X.K c i ts D) (X.pn ++ pins) (fun ev t1 => wpAny (model X.prog X.w) X.A (noteFrame ev X.env) (fun _ t2 => wpAny (model X.prog X.w) X.A (setFlight ev none) (fun _ t3 =>
    wpAny (model X.prog X.w) X.A (handleBy ev X.env (.ExceptHandler (some (.Name y p1)) (some nm) (st :: su) p2 :: rest)) (SP X pins D) X.xe t3) X.xe t2) X.xe t1) (fun _ t cc => ?_) PassesOwn.looking).run [] s τ J D (I.toTry _) w) (fun fl t sp => ?_) (fun _ _ z => z)
  · obtain ⟨z, Bh, tI, pins', τ', J', cls, d, rfl, K0, nb, u0, sk, nz, os, ag, hyes, hgo⟩ := cc
    have K1 : Inv X pins τ' J' tI := K0.ofTry iok
    have sk1 : Sky Bh (X.env :: X.outer) z (Zc cls d) X.env.locals t.heap := by rw [← h1]; exact sk
    show wpAny (model X.prog X.w) X.A (noteFrame (.ref z) X.env) _ _ _
    refine Sky.land Zc.steady frA h2 sk1 fun hA flA uA => ?_
    have KA : Inv X pins τ' J' { t with heap := hA } := K1.landed nb flA.1 (u0.trans uA) os ag
    obtain ⟨oA, vA, eA, zA, dA⟩ := flA.there
    have out : ∀ {hq : Heap} {oq : Obj} {fv : Array Value}, hq.FunFrames Bh (X.env :: X.outer) → hq.get? z = some oq → oq.data = .fields fv → z ∉ frs (X.env :: X.outer) := fun {hq oq fv} ff e1 e2 mm => by
      obtain ⟨_, oq', e3, no⟩ := ff.mem mm
      rw [e1] at e3; cases e3
      exact no _ e2
    have zfr := out flA.2.2.1 eA dA
    have zL : z ≠ X.env.locals := fun q => zfr (List.mem_filterMap.mpr ⟨X.env, List.mem_cons_self, by rw [h2, q]⟩)
    have zF : z ∉ X.fs := fun mm => by
      obtain ⟨en, he, q⟩ := List.mem_filterMap.mp mm
      exact zfr (List.mem_filterMap.mpr ⟨en, List.mem_cons_of_mem _ he, q⟩)
    have SA := KA.suite eA dA nz zL zF
    refine wpAny_handleBy_cons (codeAny_handlers_test ?_) (by intro q; cases q)
    have look : PySem.W.Looks (model X.prog X.w) hA (typeOf (.ref z)) cls := fun A' Q' E' s' kp q => wpAny_typeOf_ref (kp _ _ eA) (by rw [zA.1]; exact q)
    have isOne := PySem.W.exm_one (M := model X.prog X.w) (KA.kIn) look hyes
    have nmd : ∀ {Q' : Value → Shared → Prop} {E' : Value → Shared → Prop}, Q' c { t with heap := hA } → wpAny (model X.prog X.w) (X.A.mark (some (.ref z))) (eval (.Name y p1) X.env) Q' E' { t with heap := hA } := fun {Q' E'} q => by
      obtain ⟨yg, yd, ym | ⟨ym, yb, yn⟩⟩ := h6
      · exact ld_glob (X := X.suite z ((z, oA) :: (X.pn ++ pins))) SA yg ym q yd
      · exact ld_blt (X := X.suite z ((z, oA) :: (X.pn ++ pins))) SA yg ym yb q yn yd
    refine nmd (isOne.here ?_)
    refine codeAny_handlers_suite_as ?_
    refine HandSPX.lands_againZ flA fun hB flB uB => ?_
    have KB : Inv X pins τ' J' { t with heap := hB } := K1.landed nb flB.1 ((u0.trans uA).trans uB) os ag
    obtain ⟨oB, vB, eB, zB, dB⟩ := flB.there
    have SB := KB.suite eB dB nz zL zF
    refine store_ok (X := X.suite z ((z, oB) :: (X.pn ++ pins))) (v := .ref z) SB h3 h4 lN rfl (fun t5 S5 => ?_) (.inr h5)
    refine wpAny_mono ((hst z oB cls d (X.pn ++ pins) zB ⟨_, dB⟩).run [] t5 _ J' _ S5 (hgo z nz)) (fun fl t6 sp => ?_) (fun _ _ q => False.elim q)
    have off : ∀ {τ6 : L2.St} {J6 : Hp} {Q' : Shared → Prop}, Inv (X.suite z ((z, oB) :: (X.pn ++ pins))) [] τ6 J6 t6 → (∀ t7, Inv X pins (τ6.set i none) J6 t7 → Q' t7) →
        wpAny (model X.prog X.w) X.A (do bindName X.env nm .none; unbindBehindTheSuite X.env nm p2) (fun _ t7 => Q' t7) X.xe t6 := fun {τ6 J6 Q'} S6 q => gone_ok (S6.unsuite iok) h3 h4 h5 q
    match fl, sp with
    | .next, ⟨τ6, J6, S6, q6⟩ => exact off S6 fun t7 K7 => ⟨_, _, K7, q6⟩
    | .brk, ⟨τ6, J6, S6, q6⟩ => exact off S6 fun t7 K7 => ⟨_, _, K7, q6⟩
    | .cont, ⟨τ6, J6, S6, q6⟩ => exact off S6 fun t7 K7 => ⟨_, _, K7, q6⟩
    | .ret u, ⟨v6, τ6, J6, S6, r6, q6⟩ => exact off S6 fun t7 K7 => ⟨_, _, _, K7, r6, q6⟩
  · match fl, sp with
    | .next, ⟨τ', J', K', q⟩ => exact wpAny_execs_nil ⟨τ', J', K'.ofTry iok, q⟩
    | .brk, ⟨τ', J', K', q⟩ => exact ⟨τ', J', K'.ofTry iok, q⟩
    | .cont, ⟨τ', J', K', q⟩ => exact ⟨τ', J', K'.ofTry iok, q⟩
    | .ret u, ⟨v, τ', J', K', rv, q⟩ => exact ⟨v, τ', J', K'.ofTry iok, rv, q⟩
end
end M

set_option Elab.async false
set_option maxRecDepth 100000
set_option maxHeartbeats 16000000
/-! M15: statements, all of them. -/
namespace M
open PySem L2
open PyProof.Rows hiding St

section
variable {B : Bk1} {C : Ck} {G : Gam} {X : Cx} {sc : Scope} {L : Nat} {σ : L2.St} {H : Hp}
variable {a b c : E} {ea eb ec : Expr} {pos : Pos} {es : List Expr} {ir ks : Es}
theorem names3 {l : Nat} {x y z : Str} {px py pz : Pos} (hl : (swNames sc l [.Name x px, .Name y py, .Name z pz]).length = 3) : swNames sc l [.Name x px, .Name y py, .Name z pz] = [x, y, z] := by
  revert hl
  unfold swNames
  simp only [List.filterMap]
  split <;> split <;> split <;> simp_all
  all_goals (split at * <;> simp_all)
theorem swB_names {ts vs : List Expr} {o : List Str} (h : swB sc ts vs = some (some o)) : o = swNames sc ((ts.head?.map (·.pos.line)).getD 0) ts ∧ o.length = ts.length := by
  unfold swB at h
  split at h
  · cases h
  · split at h
    · cases h
    · split at h
      · cases h
      · split at h
        · cases h
        · split at h
          · cases h
          · rename_i c3 _ _
            cases h
            refine ⟨rfl, ?_⟩
            simp only [Bool.or_eq_true, bne_iff_ne, ne_eq, not_or, Decidable.not_not] at c3
            exact c3.1
theorem s_par3 (ok : XOk C B L G X sc) (hh : C.hot = false) (hsc : X.env.scope = sc) {i j k : Nat} {x y z : Str} {px py pz : Pos} {o : List Str} {k1 k2 : Nat} {p1 p2 : Pos} (h1 : kTgs C sc (.cons (.nm i) (.cons (.nm j) (.cons (.nm k) .nil))) [.Name x px, .Name y py, .Name z pz] = true) (h2 : kEs C sc ir es = true)
    (hn : [Expr.Name x px, .Name y py, .Name z pz].length = es.length) (hw : swB sc [.Name x px, .Name y py, .Name z pz] es = some (some o)) (hij : i ≠ j) (hik : i ≠ k) (hjk : j ≠ k) (hx : sc.names.lookup x = some .local) (hy : sc.names.lookup y = some .local) (hz : sc.names.lookup z = some .local) :
    PS X (.Assign [.Tuple [.Name x px, .Name y py, .Name z pz] k1 p1] (.Tuple es k2 p2) pos) (LS B (wS (.par (.cons (.nm i) (.cons (.nm j) (.cons (.nm k) .nil))) ir) G)) := by
  simp only [kTgs, kTg, Bool.and_eq_true, beq_iff_eq, List.isEmpty_nil] at h1
  obtain ⟨⟨_, hi, _⟩, ⟨_, hj, _⟩, ⟨_, hk0, _⟩, _⟩ := h1
  obtain ⟨ea, eb, ec, rfl⟩ : ∃ ea eb ec, es = [ea, eb, ec] := by
    match es, hn with
    | [ea, eb, ec], _ => exact ⟨_, _, _, rfl⟩
  obtain ⟨ho, ho2⟩ := swB_names hw
  have ho3 := names3 (by rw [← ho]; exact ho2)
  rw [← ho] at ho3
  subst ho3
  refine PS.imp (ps_par3 (ok.calm hh) (by rw [ok.hN]; exact ok.nd) (by rw [ok.hN]; exact hi) (by rw [ok.hN]; exact hj) (by rw [ok.hN]; exact hk0) hij hik hjk (by rw [hsc]; exact hx) (by rw [hsc]; exact hy) (by rw [hsc]; exact hz) (sEs ir B G X sc _ ok h2).pa (stores_of hsc ok.kd hw) rfl) fun K' σ H q => ?_
  obtain ⟨r, S, e, K, hS, hO, hw, hk⟩ := q
  simp only [wS] at hw
  refine ⟨r, S, e, _, hS, hO, hw, fun ds S1 r1 H1 vs hn' hk1 x1 s1 hv => ?_⟩
  obtain ⟨d1, d2, d3, v1, v2, v3, rfl, rfl, q1, q2, q3⟩ := rv3 hv hn'
  simp only [wTgs, wTg] at hk1
  exact ⟨v1, v2, v3, rfl, hk.nx _ S1 r1 H1 _ hk1.2.2 x1 s1 ((((hO.mono x1).set q1).set q2).set q3)⟩

/-! x op= e -/
def LAug (B : Bk) (o : Operator) : TIp := fun v u H Q => ∃ r S x y F, RS B r S H ∧ RV B r H x v ∧ RV B r H y u ∧ wAug o x y F ∧ ∀ d v', F d → RV B r H d v' → Q v' H
theorem aug_any : ∀ o, PIp X o (LAug B o) := by
  intro o pins s σ H v u v1 u1 Q I r1 r2 ⟨r, S, x, y, F, hS, hx, hy, hw, hf⟩
  unfold wAug at hw
  split at hw
  · cases hx; cases hy
    exact ip_add pins s σ H _ _ v1 u1 Q I r1 r2 ⟨_, _, rfl, rfl, hf _ _ hw (.int _)⟩
  · cases hx; cases hy
    exact ip_sub pins s σ H _ _ v1 u1 Q I r1 r2 ⟨_, _, rfl, rfl, hf _ _ hw (.int _)⟩
  · cases hx; cases hy
    obtain ⟨t1, rfl⟩ := r1
    obtain ⟨t2, rfl⟩ := r2
    exact PyProof.Rows.imul_int ⟨.int _, H, I.tok _, ⟨_, rfl⟩, hf _ _ hw.2 (.int _)⟩ (mulOk.ok hw.1)
  · exact hw.elim
theorem s_aug (ok : XOk C B L G X sc) {i : Nat} {x : Str} {px : Pos} {o : Operator} (hi : C.N[i]? = some x) (hl : isLoc sc x = true) (he : PE X ea (LE B (wE a G))) : PS X (.AugAssign (.Name x px) o ea pos) (LS B (wS (.aug i o a) G)) :=
  PS.imp (ps_aug (by rw [ok.hN]; exact ok.nd) (by rw [ok.hN]; exact hi) (ok.loc hl) he (aug_any (B := B) o) (ok.fnOk hl)) fun K' σ H q => by
    obtain ⟨r, S, e, K, hS, hO, hw, hk⟩ := q
    simp only [wS] at hw
    split at hw
    · rename_i d e1
      obtain ⟨v, q1, q2⟩ := hO.at_ i d e1
      refine ⟨v, q1, r, S, e, _, hS, hO, hw, fun y S1 r1 H1 u k1 x1 s1 hu => ⟨r1, S1, d, y, _, s1, q2.mono x1, hu, k1, fun z v' kz hz => hk.nx _ S1 r1 H1 _ kz x1 s1 ((hO.mono x1).set hz)⟩⟩
    · exact hw.elim

/-! loops -/
theorem s_while {body : List Stmt} {bs : Ss} (own : PassesOwn (model X.prog X.w) X.A X.env X.xe) (hc : PT X ec (LT B (wE c G))) (hb : PSs X body (LS B (wSs bs G))) : PS X (.While ec body [] pos) (LS B (wS (.whl c bs) G)) :=
  PS.imp (ps_while own hc hb) fun K' σ H q => by
    obtain ⟨r, S, e, K, hS, hO, hw, hk⟩ := q
    simp only [wS] at hw
    obtain ⟨W, ⟨m0, w0⟩, turn⟩ := hw
    refine ⟨fun m σ1 H1 => ∃ r1 S1 e1, Ex r H r1 H1 ∧ RS B r1 S1 H1 ∧ Ro B r1 H1 e1 σ1 ∧ W m e1 S1, ⟨m0, r, S, e, .refl, hS, hO, w0⟩, ?_⟩
    rintro m σ1 H1 ⟨r1, S1, e1, x1, s1, o1, w1⟩
    refine ⟨r1, S1, e1, fun t S2 => if t = true then wSs bs G { nx := fun e' S' => ∃ m', m' < m ∧ W m' e' S', ct := fun e' S' => ∃ m', m' < m ∧ W m' e' S', bk := K.nx, rt := K.rt } e1 S2 else K.nx e1 S2, s1, o1, turn m e1 S1 w1, ?_⟩
    intro t S2 r2 H2 ht x2 s2
    cases t with
    | false =>
      simp only [Bool.false_eq_true, if_false] at ht ⊢
      exact hk.nx e1 S2 r2 H2 σ1 ht (x1.trans x2) s2 (o1.mono x2)
    | true =>
      simp only [if_true] at ht ⊢
      refine ⟨fun σ' H' => ∃ m', m' < m ∧ ∃ r1 S1 e1, Ex r H r1 H' ∧ RS B r1 S1 H' ∧ Ro B r1 H' e1 σ' ∧ W m' e1 S1, fun σ' H' z => z, r2, S2, e1, _, s2, o1.mono x2, ht, ?_⟩
      have x12 := x1.trans x2
      exact ⟨fun e' S' r' H' σ' ⟨m', hm, w'⟩ x s o => ⟨m', hm, r', S', e', x12.trans x, s, o, w'⟩, fun e' S' r' H' σ' h x s o => hk.nx e' S' r' H' σ' h (x12.trans x) s o,
        fun e' S' r' H' σ' ⟨m', hm, w'⟩ x s o => ⟨m', hm, r', S', e', x12.trans x, s, o, w'⟩, fun d S' r' H' v h x s o => hk.rt d S' r' H' v h (x12.trans x) s o⟩
theorem s_for (ok : XOk C B L G X sc) (hh : C.hot = false) {it : M.It} {t : Tg} {et ei : Expr} {body : List Stmt} {bs : Ss} (own : PassesOwn (model X.prog X.w) X.A X.env X.xe) (hset : isSet ei = false) (hi : PI X et ei (LI B (wIt it G))) (hg : PG X et (LG B (tgSl t) (wTg t G))) (hb : PSs X body (LS B (wSs bs G))) :
    PS X (.For et ei body [] pos) (LS B (wS (.for_ t it bs) G)) :=
  PS.imp (ps_for own (ok.calm hh) hi hg hb (folded_of hset)) fun K' σ H q => by
    obtain ⟨r, S, e, K, hS, hO, hw, hk⟩ := q
    simp only [wS] at hw
    refine ⟨r, S, e, _, hS, hO, hw, fun src S1 r1 H1 J hF x1 s1 hj => ?_⟩
    obtain ⟨W, w0, turn⟩ := hF
    refine ⟨fun i m σ2 H2 => ∃ r2 S2 e2, m = src.items.length - i ∧ Ex r1 H1 r2 H2 ∧ RS B r2 S2 H2 ∧ Ro B r2 H2 e2 σ2 ∧ W i e2 S2, ⟨_, r1, S1, e, rfl, .refl, s1, hO.mono x1, w0⟩, ?_⟩
    rintro i m σ2 H2 ⟨r2, S2, e2, rfl, x2, s2, o2, w2⟩
    obtain ⟨hok, hle, hend, hstep⟩ := turn i e2 S2 w2
    obtain ⟨j1, j2⟩ := hj i S2 r2 H2 x2.car s2 hok
    by_cases hlt : i = src.items.length
    · exact .inl ⟨j1 hlt, hk.nx e2 S2 r2 H2 σ2 (hend hlt) (x1.trans x2) s2 o2⟩
    · have hlt' : i < src.items.length := by omega
      have hd : src.items[i]? = some src.items[i] := List.getElem?_eq_getElem hlt'
      obtain ⟨g1, g2⟩ := j2 _ hd
      refine .inr ⟨g1, fun σ' H' => ∃ r2 S2 e2, Ex r1 H1 r2 H' ∧ RS B r2 S2 H' ∧ Ro B r2 H' e2 σ' ∧ W (i + 1) e2 S2, fun σ' H' ⟨r', S', e', q1, q2, q3, q4⟩ => ⟨_, by omega, r', S', e', rfl, q1, q2, q3, q4⟩, fun v H3 y => ?_⟩
      obtain ⟨x3, s3, hv⟩ := g2 v H3 y
      refine ⟨r2, S2, e2, _, _, s3, o2.mono x3, hv, hstep _ hd, fun e4 S4 r4 H4 σ4 k4 x4 s4 o4 _ => ⟨r4, S4, e4, _, s4, o4, k4, ?_⟩⟩
      have x5 := (x2.trans x3).trans x4
      exact ⟨fun e' S' r' H' σ' w' x s o => ⟨r', S', e', x5.trans x, s, o, w'⟩, fun e' S' r' H' σ' h x s o => hk.nx e' S' r' H' σ' h (x1.trans (x5.trans x)) s o,
        fun e' S' r' H' σ' w' x s o => ⟨r', S', e', x5.trans x, s, o, w'⟩, fun d S' r' H' v h x s o => hk.rt d S' r' H' v h (x1.trans (x5.trans x)) s o⟩

/-! for t in d -/
theorem PS.or {s : Stmt} {t t' : TS} (h : PS X s t) (h' : PS X s t') : PS X s (fun D σ H => t D σ H ∨ t' D σ H) :=
  ⟨fun pins s σ H D I q => by
    rcases q with q | q
    · exact h.run pins s σ H D I q
    · exact h'.run pins s σ H D I q⟩
def tLoc (B : Bk1) (G : Gam) (b : Ss) : TS := fun D0 σ H => ∃ (r0 : Rg) (H0 : Hp), LS ⟨B.toBk, r0, H0⟩ (wSs b G.nox) D0 σ H
/-- the loop, the dict being under lock -/
theorem forD_core {i j : Nat} {b : Ss} {r : Rg} {S : Store} {e : Env'} {a : Addr} {od : Obj} {ks : List Key} {vs : List V} {K : Dn} {D : Ends} (hS : RS B r S H) (hO : Ro ⟨B.toBk, r, H⟩ r H e σ) (hd : H a = some (.frz od (.dK (ks.zip vs)))) (hl : (ks.zip vs).length = ks.length) (na : a ∉ r.c)
    (hσ : σ[i]? = some (some (.ref a))) (hw : wFor ⟨ks.map keyD, none⟩ (fun d e S Q => Q (e.set j (some d)) S) (wSs b G.nox) K e S) (hk : Lk ⟨B.toBk, r, H⟩ r H K D) : tFor (iKeys (tVar i)) (gName j) (tLoc B G b) D σ H := by
  obtain ⟨W, w0, turn⟩ := hw
  refine ⟨.ref a, hσ, a, od, rfl, .inl ⟨ks.zip vs, hd, ?_⟩⟩
  refine ⟨fun i m σ2 H2 => ∃ r2 S2 e2, m = ks.length - i ∧ Ex r H r2 H2 ∧ RS B r2 S2 H2 ∧ Ro ⟨B.toBk, r, H⟩ r2 H2 e2 σ2 ∧ W i e2 S2, ⟨_, r, S, e, rfl, .refl, hS, hO, w0⟩, ?_⟩
  rintro i m σ2 H2 ⟨r2, S2, e2, rfl, x2, s2, o2, w2⟩
  obtain ⟨_, hle, hend, hstep⟩ := turn i e2 S2 w2
  have hle : i ≤ ks.length := by simpa using hle
  have hd2 : H2 a = some (.frz od (.dK (ks.zip vs))) := x2.keep a _ hd na
  by_cases hlt : i = ks.length
  · exact .inl ⟨⟨hd2, by rw [hl, hlt]; exact Nat.le_refl _⟩, hk.nx e2 S2 r2 H2 σ2 (hend (by simpa using hlt)) x2 s2 o2⟩
  · have hlt' : i < ks.length := by omega
    refine .inr ⟨⟨hd2, by rw [hl]; exact hlt'⟩, fun σ' H' => ∃ r2 S2 e2, Ex r H r2 H' ∧ RS B r2 S2 H' ∧ Ro ⟨B.toBk, r, H⟩ r2 H' e2 σ' ∧ W (i + 1) e2 S2, fun σ' H' ⟨r', S', e', q1, q2, q3, q4⟩ => ⟨_, by omega, r', S', e', rfl, q1, q2, q3, q4⟩, fun v H3 y => ?_⟩
    obtain ⟨e3, k, v3, hk3, ev⟩ := y
    subst e3 ev
    have hki : (ks.map keyD)[i]? = some (keyD k) := by
      have hk3 : (ks.zip vs)[i]? = some (k, v3) := hk3
      rw [List.getElem?_zip_eq_some] at hk3
      rw [List.getElem?_map, hk3.1]; rfl
    refine ⟨r, H, r2, S2, e2.set j (some (keyD k)), _, s2, o2.set (keyD_rv k), hstep _ hki, ?_⟩
    exact ⟨fun e' S' r' H' σ' w' x s o => ⟨r', S', e', x2.trans x, s, o, w'⟩, fun e' S' r' H' σ' h x s o => hk.nx e' S' r' H' σ' h (x2.trans x) s o,
      fun e' S' r' H' σ' w' x s o => ⟨r', S', e', x2.trans x, s, o, w'⟩, fun d S' r' H' v h x s o => hk.rt d S' r' H' v h (x2.trans x) s o⟩
theorem s_forD (ok : XOk C B L G X sc) (hh : C.hot = false) {i j : Nat} {x t : Str} {px pt : Pos} {b : Ss} {body : List Stmt} (own : PassesOwn (model X.prog X.w) X.A X.env X.xe)
    (hi : C.N[i]? = some x) (hv : isVis sc x = true) (hx1 : x ≠ "__debug__") (hx2 : x ≠ "__classdict__") (hj : C.N[j]? = some t) (ht : isLoc sc t = true)
    (hb : ∀ (r0 : Rg) (H0 : Hp), XOk C ⟨B.toBk, r0, H0⟩ L G.nox X sc → PSs X body (LS ⟨B.toBk, r0, H0⟩ (wSs b G.nox))) :
    PS X (.For (.Name t pt) (.Name x px) body [] pos) (LS B (wS (.forD i j b) G)) := by
  have hN : X.N[i]? = some x := by rw [ok.hN]; exact hi
  have pv := pe_var (pos := px) hN (ok.vis hv) (beq_eq_false_iff_ne.mpr hx1) (beq_eq_false_iff_ne.mpr hx2)
  have pb : PSs X body (tLoc B G b) := ⟨fun pins s σ H D I ⟨r0, H0, h⟩ => (hb r0 H0 (ok.nx r0 H0)).run pins s σ H D I h⟩
  have hNj : X.N[j]? = some t := by rw [ok.hN]; exact hj
  have pf := ps_for (pos := pos) own (ok.calm hh) (pi_keys pv) (pg_name (pos := pt) (by rw [ok.hN]; exact ok.nd) hNj (ok.loc ht) (ok.fnOk ht)) pb
  refine PS.imp (PS.or (ps_lock pf) pf) fun D σ H ⟨r, S, e, K, hS, hO, hw, hk⟩ => ?_
  simp only [wS] at hw
  split at hw
  · rename_i d q
    obtain ⟨ks, ds, rfl, hw⟩ := hw
    obtain ⟨v, h5, h6⟩ := hO.at_ i _ q
    cases h6 with
    | @dct _ a vs _ n l hr hs =>
      have na := (Rg.not.mp n).1
      have hl : (ks.zip vs).length = ks.length := by rw [List.length_zip, ← hs.length, l]; simp
      rcases hr with hr | ⟨o, hr⟩
      · refine .inl ⟨a, _, hr, True.intro, fun od => ?_⟩
        have lk := Lck.lk (od := od) hr
        have s1 := hS.lckV na lk
        refine forD_core (b := b) s1 ⟨.refl, hO.len, fun i d h => ?_⟩ upd_same hl na h5 hw ?_
        · obtain ⟨w, q1, q2⟩ := hO.at_ i d h
          exact ⟨w, q1, q2.lck lk⟩
        · have un : ∀ {r' : Rg} {H' : Hp}, Ex r (upd H a (.frz od (.dK (ks.zip vs)))) r' H' → H' a = some (.frz od (.dK (ks.zip vs))) ∧ a ∉ r'.c ∧ Lck H' (upd H' a (.dK (ks.zip vs))) ∧ Ex r H r' (upd H' a (.dK (ks.zip vs))) := fun x => by
            have h1 := x.keep a _ upd_same na
            exact ⟨h1, x.outC upd_same na, .un h1, Ex.lk hr na x⟩
          have ro : ∀ {r' : Rg} {H' : Hp} {e' : Env'} {σ' : L2.St}, Ex r (upd H a (.frz od (.dK (ks.zip vs)))) r' H' → Ro ⟨B.toBk, r, upd H a (.frz od (.dK (ks.zip vs)))⟩ r' H' e' σ' → Ro B r' (upd H' a (.dK (ks.zip vs))) e' σ' := fun x o => by
            obtain ⟨_, _, u3, u4⟩ := un x
            exact ⟨hO.ln.ex u4, o.len, fun i d h => let ⟨w, q1, q2⟩ := o.at_ i d h; ⟨w, q1, q2.lck u3⟩⟩
          refine ⟨fun e' S' r' H' σ' h x s o => ?_, fun e' S' r' H' σ' h x s o => ?_, fun e' S' r' H' σ' h x s o => ?_, fun d S' r' H' v h x s o => ?_⟩
          · obtain ⟨u1, u2, u3, u4⟩ := un x
            exact ⟨u1, hk.nx e' S' r' _ σ' h u4 (s.lckV u2 u3) (ro x o)⟩
          · obtain ⟨u1, u2, u3, u4⟩ := un x
            exact ⟨u1, hk.bk e' S' r' _ σ' h u4 (s.lckV u2 u3) (ro x o)⟩
          · obtain ⟨u1, u2, u3, u4⟩ := un x
            exact ⟨u1, hk.ct e' S' r' _ σ' h u4 (s.lckV u2 u3) (ro x o)⟩
          · obtain ⟨u1, u2, u3, u4⟩ := un x
            exact ⟨u1, hk.rt d S' r' _ v h u4 (s.lckV u2 u3) (o.lck u3)⟩
      · refine .inr (forD_core (b := b) hS ⟨.refl, hO.len, hO.at_⟩ hr hl na h5 hw ?_)
        exact ⟨fun e' S' r' H' σ' h x s o => hk.nx e' S' r' H' σ' h x s ⟨hO.ln.ex x, o.len, o.at_⟩, fun e' S' r' H' σ' h x s o => hk.bk e' S' r' H' σ' h x s ⟨hO.ln.ex x, o.len, o.at_⟩,
          fun e' S' r' H' σ' h x s o => hk.ct e' S' r' H' σ' h x s ⟨hO.ln.ex x, o.len, o.at_⟩, hk.rt⟩
  · exact hw.elim
/-! all statements -/
theorem Lk.seq {r : Rg} {K : Dn} {D0 : Ends} {w : Dn → Env' → Store → Prop} (k : Lk B r H K D0) : Lk B r H { K with nx := fun e S => w K e S } { D0 with nx := LS B w D0 } :=
  ⟨fun e S r' H' σ h x s o => ⟨r', S, e, K, s, o, h, k.trans x⟩, k.bk, k.ct, k.rt⟩

/-! exceptions -/
theorem c_raise (ok : XOk C B L G X sc) (hh : C.hot = false) {c : Str} {ns : List Str} {p cp : Pos} {e0 : Expr} {es0 : List Expr} (hg : isGl sc c = true) (he : C.ec.contains (c, ns) = true) (hn : (e0 :: es0).length = ns.length) (hes : allArg (e0 :: es0) = true) (ha : PA X (e0 :: es0) (LEs B (e0 :: es0).length (wEs ir G))) :
    PS X (.Raise (some (.Call (.Name c p) (e0 :: es0) [] cp)) none pos) (LS B (wS (.raise c ns ir) G)) := by
  obtain ⟨Cc, fI, fd, ps, k, hk1, hk2, hm, T, h1, h2, F1, hb⟩ := ok.ec c ns he
  have hK := ok.hK
  have hM := ok.hmg
  have hes' : isArg e0 = true ∧ allArg es0 = true := by simpa [allArg] using hes
  have mk := pmk_oex (X := X) (CX := L2.CX X.prog X.w) (p := p) (pos := cp) (ds := []) (dvs := []) (by rw [hK]; exact T) (by rw [hK]; exact h1) (by rw [hK]; exact h2) (by rw [hK, hM]; exact F1) ((ok.room hh).mono hk1) (by rw [hK]; exact hb) .nil
    (passes_call (E := fun _ _ _ => False) ok.tk fun _ _ _ _ z => z.elim) (ok.glb hg) (by rw [hM]; exact hm) ha (gl_of hg).2.2 (star_cons hes'.1) (plain_args hes'.2)
  refine PS.imp (ps_raise (ok.calm hh) ok.tk mk) fun D σ H q => ?_
  obtain ⟨r, S, e, K, hS, hO, hw, hk⟩ := q
  simp only [wS] at hw
  refine ⟨r, S, e, _, hS, hO, hw, fun ds S1 r1 H1 vs hl k1 x1 s1 hv => ?_⟩
  obtain ⟨hlen, hex⟩ := k1
  refine ⟨by rw [← hv.length, hlen]; omega, fun a na => ?_⟩
  refine ⟨a, vs, by rw [List.append_nil], by rw [← hv.length, hlen], T, upd_same, fun dx hdx hne => ?_⟩
  have hdx1 : H1 dx = none := by rw [upd_ne hne] at hdx; exact hdx
  refine ⟨rfl, dx, ns.zip vs.reverse, upd_same, by rw [upd_ne hne, upd_same], hdx1, ?_⟩
  have eH : upd (L2.del (upd (upd (upd H1 a (exo a Cc none)) dx (exd dx (ns.zip vs.reverse))) a (exo a Cc (some dx))) a) dx (.xd (ns.zip vs.reverse)) = upd H1 dx (.xd (ns.zip vs.reverse)) := by
    funext b
    by_cases hbd : b = dx
    · rw [hbd, upd_same, upd_same]
    · rw [upd_ne hbd, upd_ne hbd]
      by_cases hba : b = a
      · rw [hba, L2.del_same, na]
      · rw [L2.del_ne hba, upd_ne hba, upd_ne hbd, upd_ne hba]
  rw [eH]
  have x2 : Ex r1 H1 r1 (upd H1 dx (.xd (ns.zip vs.reverse))) := .new hdx1
  exact ⟨r1, S1, e, .ins c ns ds.reverse, s1.new hdx1, (hO.mono x1).mono x2, .own hm (by rw [List.length_reverse, hlen]) upd_same (s1.free hdx1) (hv.rev.mono x2), hex⟩
/-- what statements ask of the frame -/
structure Own (X : Cx) : Prop where
  ps : PassesOwn (model X.prog X.w) X.A X.env X.xe
  st : X.stack = X.env :: X.outer
  fr : X.env.frame = some X.env.locals
/-- within a try -/
theorem XOk.tr (ok : XOk C B L G X sc) (r0 : Rg) (H0 : Hp) (ex : D → Env' → Store → Prop) (pn : List (Addr × Obj)) (xe : Value → Shared → Prop) (tk : Takes (X.tr pn xe) (WXof ⟨B.toBk, r0, H0⟩ (G.tr ex))) : XOk C ⟨B.toBk, r0, H0⟩ L (G.tr ex) (X.tr pn xe) sc where
  hK := ok.hK
  hmg := ok.hmg
  hN := ok.hN
  nd := ok.nd
  calm := ok.calm
  rel := ok.rel
  kd := ok.kd
  cel := ok.cel
  room := ok.room
  un := ok.un
  gd := ok.gd
  gl := ok.gl
  bt := ok.bt
  im := ok.im
  fn := ok.fn
  tk := tk
  xa := fun _ _ _ h => by cases h
  ec := ok.ec
  exm := ok.exm
  kd_ := ok.kd_
  cl := ok.cl
theorem XOk.suite (ok : XOk C B L G X sc) {a dx Cc : Addr} {cn : Str} {oe : Obj} {pn : List (Addr × Obj)} (hc : clsAt B cn Cc) (hz : Zc (.ref Cc) (some dx) oe) (hv : ∃ vs, oe.data = .fields vs) (T : XCl X.K Cc) :
    XOk { C with hot := true } B L (G.cat a dx cn) (X.suite a ((a, oe) :: pn)) sc where
  hK := ok.hK
  hmg := ok.hmg
  hN := ok.hN
  nd := ok.nd
  calm := fun h => by cases h
  rel := ok.rel
  kd := ok.kd
  cel := ok.cel
  room := fun h => by cases h
  un := ok.un
  gd := ok.gd
  gl := ok.gl
  bt := ok.bt
  im := ok.im
  fn := ok.fn
  tk := fun u s' ⟨_, _, _, _, _, _, _, _, _, _, _, _, _, _, _, _, _, _, _, _, _, _, _, z⟩ => z.elim
  xa := fun a' dx' c' h => by
    cases h
    exact ⟨X, oe, pn, Cc, rfl, hc, hz, hv, T⟩
  ec := ok.ec
  exm := ok.exm
  kd_ := ok.kd_
  cl := ok.cl
theorem XOk.suite0 (ok : XOk C B L G X sc) {a : Addr} {oe : Obj} {pn : List (Addr × Obj)} : XOk { C with hot := true } B L G.nox (X.suite a ((a, oe) :: pn)) sc where
  hK := ok.hK
  hmg := ok.hmg
  hN := ok.hN
  nd := ok.nd
  calm := fun h => by cases h
  rel := ok.rel
  kd := ok.kd
  cel := ok.cel
  room := fun h => by cases h
  un := ok.un
  gd := ok.gd
  gl := ok.gl
  bt := ok.bt
  im := ok.im
  fn := ok.fn
  tk := fun u s' ⟨_, _, _, _, _, _, _, _, _, _, _, _, _, _, _, _, _, _, _, _, _, _, _, z⟩ => z.elim
  xa := fun _ _ _ h => by cases h
  ec := ok.ec
  exm := ok.exm
  kd_ := ok.kd_
  cl := ok.cl
/-- a try's body -/
def tTry (B : Bk1) (G : Gam) (b : Ss) (W : WX) : TS := fun D0 σ H => ∃ (r0 : Rg) (H0 : Hp) (ex : D → Env' → Store → Prop), (∀ c d σ H, WXof ⟨B.toBk, r0, H0⟩ (G.tr ex) c d σ H → W c d σ H) ∧ LS ⟨B.toBk, r0, H0⟩ (wSs b (G.tr ex)) D0 σ H
/-- where the exception is caught -/
theorem catch_at {r r1 : Rg} {H H' : Hp} {S1 : Store} {e e1 : Env'} {σ' : L2.St} {K : Dn} {D0 : Ends} {d0 : D} {c : Value} {d : Option Addr} (hO : Ro B r H e σ) (hk : Lk B r H K D0) (s1 : RS B r1 S1 H') (o1 : Ro ⟨B.toBk, r, H⟩ r1 H' e1 σ') (xv : XV B r1 H' d0 c d) :
    RS B (r1.un r.z) S1 H' ∧ Ro B (r1.un r.z) H' e1 σ' ∧ XV B (r1.un r.z) H' d0 c d ∧ Lk B (r1.un r.z) H' K D0 := by
  have ln : Lnk r H r1 H' := o1.ln
  have ex : Ex r H (r1.un r.z) H' := ln.out
  have car : Car r1 H' (r1.un r.z) H' := .zout ln.zs
  refine ⟨s1.zout ln.zs, ⟨hO.ln.ex ex, o1.len, fun i d h => ?_⟩, ?_, hk.trans ex⟩
  · obtain ⟨v, q1, q2⟩ := o1.at_ i d h
    exact ⟨v, q1, q2.car car⟩
  · cases xv with
    | own h1 h2 h3 h4 h5 => exact .own h1 h2 h3 (car.keep _ _ h3 h4).2 (h5.car car)
theorem Lk.off {r : Rg} {K : Dn} {D0 : Ends} (k : Lk B r H K D0) (i : Nat) : Lk B r H (K.off i) { nx := fun σ' H' => D0.nx (σ'.set i none) H', rt := D0.rt, bk := fun σ' H' => D0.bk (σ'.set i none) H', ct := fun σ' H' => D0.ct (σ'.set i none) H' } :=
  ⟨fun e S r' H' σ h x s o => k.nx _ S r' H' _ h x s o.del, fun e S r' H' σ h x s o => k.bk _ S r' H' _ h x s o.del, fun e S r' H' σ h x s o => k.ct _ S r' H' _ h x s o.del, k.rt⟩
theorem s_try (ok : XOk C B L G X sc) (own : Own X) (hsc : X.env.scope = sc) {x n : Str} {np cp : Pos} {i : Nat} {tb : List (Str × Bool)} {b s : Ss} {body suite : List Stmt} {b0 : Stmt} (hg : isGl sc x = true) (hi : C.N[i]? = some n) (hl : sc.names.lookup n = some .local) (ht : tbOk C x tb = true)
    (hb : ∀ (r0 : Rg) (H0 : Hp) (ex : D → Env' → Store → Prop) (pn : List (Addr × Obj)) (xe : Value → Shared → Prop), PassesOwn (model X.prog X.w) X.A X.env xe → XOk C ⟨B.toBk, r0, H0⟩ L (G.tr ex) (X.tr pn xe) sc → PSs (X.tr pn xe) body (LS ⟨B.toBk, r0, H0⟩ (wSs b (G.tr ex))))
    (hu : ∀ (a dx : Addr) (cn : Str) (oe : Obj) (pn : List (Addr × Obj)), XOk { C with hot := true } B L (G.cat a dx cn) (X.suite a ((a, oe) :: pn)) sc → PSs (X.suite a ((a, oe) :: pn)) (b0 :: suite) (LS B (wSs s (G.cat a dx cn)))) :
    PS X (.Try body [.ExceptHandler (some (.Name x np)) (some n) (b0 :: suite) cp] [] [] pos) (LS B (wS (.tryAs tb i b s) G)) := by
  obtain ⟨Cx, hx⟩ := tb_cls ok ht
  have hn : Names X x (.ref Cx) := ⟨ok.glb hg, (gl_of hg).2.2, .inl (by rw [ok.hmg]; exact hx)⟩
  refine PS.imp (ps_try_as (i := i) (Wout := WXof B G) (tb := tTry B G b)
    (ts := fun a cls d D σ H => ∃ Cc dx cn, cls = .ref Cc ∧ d = some dx ∧ clsAt B cn Cc ∧ XCl X.K Cc ∧ LS B (wSs s (G.cat a dx cn)) D σ H)
    own.st own.fr (by rw [ok.hN]; exact ok.nd) (by rw [ok.hN]; exact hi) (by show X.env.scope.names.lookup n = _; rw [hsc]; exact hl) hn ok.tk ?_ ?_) fun D0 σ H q => ?_
  · intro W pn xe tk po
    refine ⟨fun pins s σ H D I ⟨r0, H0, ex, hin, h⟩ => ?_⟩
    exact (hb r0 H0 ex pn xe po (ok.tr r0 H0 ex pn xe (tk.imp hin))).run pins s σ H D I h
  · intro a oe cls d pn hz hv
    refine ⟨fun pins s σ H D I ⟨Cc, dx, cn, e1, e2, hc, T, h⟩ => ?_⟩
    subst e1 e2
    exact (hu a dx cn oe pn (ok.suite hc hz hv T)).run pins s σ H D I h
  · obtain ⟨r, S, e, K, hS, hO, hw, hk⟩ := q
    simp only [wS] at hw
    refine ⟨r, H, _, fun c d σ' H' w => ?_, r, S, e, K, hS, ⟨.refl, hO.len, hO.at_⟩, hw, ⟨fun e' S' r' H' σ' h x s o => hk.nx e' S' r' H' σ' h x s ⟨hO.ln.ex x, o.len, o.at_⟩, fun e' S' r' H' σ' h x s o => hk.bk e' S' r' H' σ' h x s ⟨hO.ln.ex x, o.len, o.at_⟩, fun e' S' r' H' σ' h x s o => hk.ct e' S' r' H' σ' h x s ⟨hO.ln.ex x, o.len, o.at_⟩, hk.rt⟩⟩
    obtain ⟨r1, S1, e1, d0, s1, o1, xv, hex⟩ := w
    obtain ⟨s2, o2, xv2, k2⟩ := catch_at hO hk s1 o1 xv
    cases xv2 with
    | @own cn ns ds vs Cc dx h1 h2 h3 h4 h5 =>
      simp only [Gam.tr, exTry] at hex
      cases hlk : tb.lookup cn with
      | none => rw [hlk] at hex; exact hex.elim
      | some bb =>
        rw [hlk] at hex
        obtain ⟨Cc', Cx', q1, q2, q3, q4, q5⟩ := ok.exm cn x bb (tb_at ht hlk)
        have e1' := clsAt_eq h1 q1
        have e2' := clsAt_eq hx q2
        subst e1' e2'
        have hK := ok.hK
        refine ⟨bb, by rw [hK]; exact q3, fun hbb a na => ?_, fun hbb => ?_⟩
        · subst hbb
          refine ⟨Cc, dx, cn, rfl, rfl, h1, by rw [hK]; exact q5, _, S1, _, K.off i, s2, o2.set (.exc h1 h4 h2 h3 h5), hex a dx, k2.off i⟩
        · subst hbb
          exact ⟨_, S1, e1, _, s2, o2, .own h1 h2 h3 h4 h5, hex⟩
theorem s_tryOn (ok : XOk C B L G X sc) (own : Own X) (hsc : X.env.scope = sc) {x : Str} {np cp : Pos} {tb : List (Str × Bool)} {b s : Ss} {body suite : List Stmt} {b0 : Stmt} (hg : isGl sc x = true) (ht : tbOk C x tb = true)
    (hb : ∀ (r0 : Rg) (H0 : Hp) (ex : D → Env' → Store → Prop) (pn : List (Addr × Obj)) (xe : Value → Shared → Prop), PassesOwn (model X.prog X.w) X.A X.env xe → XOk C ⟨B.toBk, r0, H0⟩ L (G.tr ex) (X.tr pn xe) sc → PSs (X.tr pn xe) body (LS ⟨B.toBk, r0, H0⟩ (wSs b (G.tr ex))))
    (hu : ∀ (a : Addr) (oe : Obj) (pn : List (Addr × Obj)), XOk { C with hot := true } B L G.nox (X.suite a ((a, oe) :: pn)) sc → PSs (X.suite a ((a, oe) :: pn)) (b0 :: suite) (LS B (wSs s G.nox))) :
    PS X (.Try body [.ExceptHandler (some (.Name x np)) none (b0 :: suite) cp] [] [] pos) (LS B (wS (.tryOn tb b s) G)) := by
  obtain ⟨Cx, hx⟩ := tb_cls ok ht
  have hn : Names X x (.ref Cx) := ⟨ok.glb hg, (gl_of hg).2.2, .inl (by rw [ok.hmg]; exact hx)⟩
  refine PS.imp (ps_try_only (Wout := WXof B G) (tb := tTry B G b) (ts := fun _ _ _ D σ H => LS B (wSs s G.nox) D σ H) own.st own.fr hn ok.tk ?_ ?_) fun D0 σ H q => ?_
  · intro W pn xe tk po
    refine ⟨fun pins s σ H D I ⟨r0, H0, ex, hin, h⟩ => ?_⟩
    exact (hb r0 H0 ex pn xe po (ok.tr r0 H0 ex pn xe (tk.imp hin))).run pins s σ H D I h
  · intro a oe cls d pn hz hv
    exact hu a oe pn ok.suite0
  · obtain ⟨r, S, e, K, hS, hO, hw, hk⟩ := q
    simp only [wS] at hw
    refine ⟨r, H, _, fun c d σ' H' w => ?_, r, S, e, K, hS, ⟨.refl, hO.len, hO.at_⟩, hw, ⟨fun e' S' r' H' σ' h x s o => hk.nx e' S' r' H' σ' h x s ⟨hO.ln.ex x, o.len, o.at_⟩, fun e' S' r' H' σ' h x s o => hk.bk e' S' r' H' σ' h x s ⟨hO.ln.ex x, o.len, o.at_⟩, fun e' S' r' H' σ' h x s o => hk.ct e' S' r' H' σ' h x s ⟨hO.ln.ex x, o.len, o.at_⟩, hk.rt⟩⟩
    obtain ⟨r1, S1, e1, d0, s1, o1, xv, hex⟩ := w
    obtain ⟨s2, o2, xv2, k2⟩ := catch_at hO hk s1 o1 xv
    cases xv2 with
    | @own cn ns ds vs Cc dx h1 h2 h3 h4 h5 =>
      simp only [Gam.tr, exTry] at hex
      cases hlk : tb.lookup cn with
      | none => rw [hlk] at hex; exact hex.elim
      | some bb =>
        rw [hlk] at hex
        obtain ⟨Cc', Cx', q1, q2, q3, q4, q5⟩ := ok.exm cn x bb (tb_at ht hlk)
        have e1' := clsAt_eq h1 q1
        have e2' := clsAt_eq hx q2
        subst e1' e2'
        have hK := ok.hK
        refine ⟨bb, by rw [hK]; exact q3, fun hbb a na => ?_, fun hbb => ?_⟩
        · subst hbb
          exact ⟨_, S1, _, K, s2, o2, hex 0 0, k2⟩
        · subst hbb
          exact ⟨_, S1, e1, _, s2, o2, .own h1 h2 h3 h4 h5, hex⟩

theorem s_try2 (ok : XOk C B L G X sc) (own : Own X) (hsc : X.env.scope = sc) {x n : Str} {np cp : Pos} {i : Nat} {tb : List (Str × Bool)} {b s : Ss} {body suite : List Stmt} {rest : List ExceptHandler} {b0 : Stmt} (hg : isGl sc x = true) (hi : C.N[i]? = some n) (hl : sc.names.lookup n = some .local) (ht : tbOk C x tb = true) (hall : tb.all (·.2) = true)
    (hb : ∀ (r0 : Rg) (H0 : Hp) (ex : D → Env' → Store → Prop) (pn : List (Addr × Obj)) (xe : Value → Shared → Prop), PassesOwn (model X.prog X.w) X.A X.env xe → XOk C ⟨B.toBk, r0, H0⟩ L (G.tr ex) (X.tr pn xe) sc → PSs (X.tr pn xe) body (LS ⟨B.toBk, r0, H0⟩ (wSs b (G.tr ex))))
    (hu : ∀ (a dx : Addr) (cn : Str) (oe : Obj) (pn : List (Addr × Obj)), XOk { C with hot := true } B L (G.cat a dx cn) (X.suite a ((a, oe) :: pn)) sc → PSs (X.suite a ((a, oe) :: pn)) (b0 :: suite) (LS B (wSs s (G.cat a dx cn)))) :
    PS X (.Try body (.ExceptHandler (some (.Name x np)) (some n) (b0 :: suite) cp :: rest) [] [] pos) (LS B (wS (.tryAs2 tb i b s) G)) := by
  obtain ⟨Cx, hx⟩ := tb_cls ok ht
  have hn : Names X x (.ref Cx) := ⟨ok.glb hg, (gl_of hg).2.2, .inl (by rw [ok.hmg]; exact hx)⟩
  refine PS.imp (ps_try2 (i := i) (tb := tTry B G b)
    (ts := fun a cls d D σ H => ∃ Cc dx cn, cls = .ref Cc ∧ d = some dx ∧ clsAt B cn Cc ∧ XCl X.K Cc ∧ LS B (wSs s (G.cat a dx cn)) D σ H)
    own.st own.fr (by rw [ok.hN]; exact ok.nd) (by rw [ok.hN]; exact hi) (by show X.env.scope.names.lookup n = _; rw [hsc]; exact hl) hn ?_ ?_) fun D0 σ H q => ?_
  · intro W pn xe tk po
    refine ⟨fun pins s σ H D I ⟨r0, H0, ex, hin, h⟩ => ?_⟩
    exact (hb r0 H0 ex pn xe po (ok.tr r0 H0 ex pn xe (tk.imp hin))).run pins s σ H D I h
  · intro a oe cls d pn hz hv
    refine ⟨fun pins s σ H D I ⟨Cc, dx, cn, e1, e2, hc, T, h⟩ => ?_⟩
    subst e1 e2
    exact (hu a dx cn oe pn (ok.suite hc hz hv T)).run pins s σ H D I h
  · obtain ⟨r, S, e, K, hS, hO, hw, hk⟩ := q
    simp only [wS] at hw
    refine ⟨r, H, _, fun c d σ' H' w => ?_, r, S, e, K, hS, ⟨.refl, hO.len, hO.at_⟩, hw, ⟨fun e' S' r' H' σ' h x s o => hk.nx e' S' r' H' σ' h x s ⟨hO.ln.ex x, o.len, o.at_⟩, fun e' S' r' H' σ' h x s o => hk.bk e' S' r' H' σ' h x s ⟨hO.ln.ex x, o.len, o.at_⟩, fun e' S' r' H' σ' h x s o => hk.ct e' S' r' H' σ' h x s ⟨hO.ln.ex x, o.len, o.at_⟩, hk.rt⟩⟩
    obtain ⟨r1, S1, e1, d0, s1, o1, xv, hex⟩ := w
    obtain ⟨s2, o2, xv2, k2⟩ := catch_at hO hk s1 o1 xv
    cases xv2 with
    | @own cn ns ds vs Cc dx h1 h2 h3 h4 h5 =>
      simp only [Gam.tr, exTry] at hex
      cases hlk : tb.lookup cn with
      | none => rw [hlk] at hex; exact hex.elim
      | some bb =>
        rw [hlk] at hex
        obtain ⟨Cc', Cx', q1, q2, q3, q4, q5⟩ := ok.exm cn x bb (tb_at ht hlk)
        have e1' := clsAt_eq h1 q1
        have e2' := clsAt_eq hx q2
        subst e1' e2'
        have hK := ok.hK
        cases bb with
        | true => exact ⟨by rw [hK]; exact q3, fun a na => ⟨Cc, dx, cn, rfl, rfl, h1, by rw [hK]; exact q5, _, S1, _, K.off i, s2, o2.set (.exc h1 h4 h2 h3 h5), hex a dx, k2.off i⟩⟩
        | false => exact hex.elim

mutual
theorem sS : ∀ (ir : St') (B : Bk1) (C : Ck) (X : Cx) (G : Gam) (sc : Scope) (s : Stmt), (C.hot = false → Own X) → XOk C B L G X sc → X.env.scope = sc → kS C sc ir s = true → PS X s (LS B (wS ir G))
  | .asg t a, B, C, X, G, sc, s, own, ok, hsc, h => by
    simp only [kS] at h
    split at h
    · simp only [Bool.and_eq_true, Bool.not_eq_true'] at h
      obtain ⟨⟨⟨⟨⟨h1, h2⟩, h3⟩, h4⟩, h6⟩, h5⟩ := h
      exact s_asgAny ok hsc h1 h2 h3 h4 h6 h5
    · cases h
  | .par ts es, B, C, X, G, sc, s, own, ok, hsc, h => by
    simp only [kS] at h
    split at h
    · simp only [Bool.and_eq_true, decide_eq_true_eq] at h
      obtain ⟨⟨⟨⟨hh, h1⟩, h2⟩, h3⟩, h4⟩ := h
      split at h4
      · rename_i hw
        exact s_par ok (by simpa using hh) hsc h1 h2 h3 hw
      · rename_i hw
        split at h4
        · simp only [Bool.and_eq_true, decide_eq_true_eq, beq_iff_eq] at h4
          exact s_par2 ok (by simpa using hh) hsc h1 h2 h3 hw h4.1.1 h4.1.2 h4.2
        · simp only [Bool.and_eq_true, decide_eq_true_eq, beq_iff_eq] at h4
          obtain ⟨⟨⟨⟨⟨q1, q2⟩, q3⟩, q4⟩, q5⟩, q6⟩ := h4
          exact s_par3 ok (by simpa using hh) hsc h1 h2 h3 hw q1 q2 q3 q4 q5 q6
        · cases h4
      · cases h4
    · cases h
  | .aug i o a, B, C, X, G, sc, s, own, ok, hsc, h => by
    simp only [kS] at h
    split at h
    · simp only [Bool.and_eq_true, decide_eq_true_eq, beq_iff_eq] at h
      obtain ⟨⟨⟨rfl, h1⟩, h2⟩, h3⟩ := h
      exact s_aug ok h1 h2 (sE a B G X sc _ ok h3).pe
    · cases h
  | .ex a, B, C, X, G, sc, s, own, ok, hsc, h => by
    simp only [kS] at h
    split at h
    · simp only [Bool.and_eq_true, Bool.not_eq_true'] at h
      refine PS.imp (ps_expr (sE a B G X sc _ ok h.2).pe (sw_plain h.1)) fun K' σ H q => ?_
      obtain ⟨r, S, e, K, hS, hO, hw, hk⟩ := q
      simp only [wS] at hw
      exact ⟨r, S, e, _, hS, hO, hw, fun x S1 r1 H1 v k1 x1 s1 hv => hk.nx e S1 r1 H1 σ k1 x1 s1 (hO.mono x1)⟩
    · cases h
  | .ret a, B, C, X, G, sc, s, own, ok, hsc, h => by
    simp only [kS] at h
    split at h
    · refine PS.imp (ps_ret (sE a B G X sc _ ok h).pe) fun K' σ H q => ?_
      obtain ⟨r, S, e, K, hS, hO, hw, hk⟩ := q
      simp only [wS] at hw
      exact ⟨r, S, e, _, hS, hO, hw, fun x S1 r1 H1 v k1 x1 s1 hv => hk.rt x S1 r1 H1 v k1 x1 s1 hv⟩
    · cases h
  | .retN, B, C, X, G, sc, s, own, ok, hsc, h => by
    simp only [kS] at h
    split at h
    · refine PS.imp ps_retN fun K' σ H q => ?_
      obtain ⟨r, S, e, K, hS, hO, hw, hk⟩ := q
      simp only [wS] at hw
      exact hk.rt _ S r H _ hw .refl hS .non
    · cases h
  | .ite c a b, B, C, X, G, sc, s, own, ok, hsc, h => by
    simp only [kS] at h
    split at h
    · simp only [Bool.and_eq_true] at h
      refine PS.imp (ps_if (sE c B G X sc _ ok h.1.1).pt (sSs a B C X G sc _ own ok hsc h.1.2) (sSs b B C X G sc _ own ok hsc h.2)) fun K' σ H q => ?_
      obtain ⟨r, S, e, K, hS, hO, hw, hk⟩ := q
      simp only [wS] at hw
      refine ⟨r, S, e, fun t S1 => if t = true then wSs a G K e S1 else wSs b G K e S1, hS, hO, hw, fun t S1 r1 H1 k1 x1 s1 => ?_⟩
      cases t with
      | true => simp only [if_true] at k1 ⊢; exact ⟨r1, S1, e, K, s1, hO.mono x1, k1, hk.trans x1⟩
      | false => simp only [Bool.false_eq_true, if_false] at k1 ⊢; exact ⟨r1, S1, e, K, s1, hO.mono x1, k1, hk.trans x1⟩
    · cases h
  | .whl c b, B, C, X, G, sc, s, own, ok, hsc, h => by
    simp only [kS] at h
    split at h
    · simp only [Bool.and_eq_true, Bool.not_eq_true'] at h
      exact s_while (own h.2).ps (sE c B G X sc _ ok h.1.1).pt (sSs b B C X G sc _ own ok hsc h.1.2)
    · cases h
  | .for_ t it b, B, C, X, G, sc, s, own, ok, hsc, h => by
    simp only [kS] at h
    split at h
    · simp only [Bool.and_eq_true, Bool.not_eq_true'] at h
      obtain ⟨⟨⟨⟨⟨h1, h2⟩, h3⟩, h5⟩, h4⟩, hh⟩ := h
      exact s_for ok hh (own hh).ps h1 (sIt it B G X sc _ _ ok h3 h5) (sTg t B G X sc _ ok h2) (sSs b B C X G sc _ own ok hsc h4)
    · cases h
  | .forD i j b, B, C, X, G, sc, s, own, ok, hsc, h => by
    simp only [kS] at h
    split at h
    · simp only [Bool.and_eq_true, Bool.not_eq_true', beq_iff_eq, bne_iff_ne, ne_eq] at h
      obtain ⟨⟨⟨⟨⟨⟨⟨h1, h2⟩, h3⟩, h4⟩, h5⟩, h6⟩, h7⟩, hh⟩ := h
      exact s_forD ok hh (own hh).ps h1 h2 h3 h4 h5 h6 fun r0 H0 ok' => sSs b ⟨B.toBk, r0, H0⟩ C X G.nox sc _ own ok' hsc h7
    · cases h
  | .pass, B, C, X, G, sc, s, own, ok, hsc, h => by
    simp only [kS] at h
    split at h
    · refine PS.imp ps_pass fun K' σ H q => ?_
      obtain ⟨r, S, e, K, hS, hO, hw, hk⟩ := q
      simp only [wS] at hw
      exact hk.nx e S r H σ hw .refl hS hO
    · cases h
  | .brk, B, C, X, G, sc, s, own, ok, hsc, h => by
    simp only [kS] at h
    split at h
    · refine PS.imp ps_break fun K' σ H q => ?_
      obtain ⟨r, S, e, K, hS, hO, hw, hk⟩ := q
      simp only [wS] at hw
      exact hk.bk e S r H σ hw .refl hS hO
    · cases h
  | .cont, B, C, X, G, sc, s, own, ok, hsc, h => by
    simp only [kS] at h
    split at h
    · refine PS.imp ps_continue fun K' σ H q => ?_
      obtain ⟨r, S, e, K, hS, hO, hw, hk⟩ := q
      simp only [wS] at hw
      exact hk.ct e S r H σ hw .refl hS hO
    · cases h
  | .raise c ns es, B, C, X, G, sc, s, own, ok, hsc, h => by
    simp only [kS] at h
    split at h
    · simp only [Bool.and_eq_true, Bool.not_eq_true', beq_iff_eq, decide_eq_true_eq] at h
      obtain ⟨⟨⟨⟨⟨rfl, h1⟩, h2⟩, h3⟩, h4⟩, hh⟩ := h
      exact c_raise ok hh h1 h2 h3 (kEs_args h4) (sEs es B G X sc _ ok h4).pa
    · cases h
  | .tryAs tb i b s0, B, C, X, G, sc, s, own, ok, hsc, h => by
    simp only [kS] at h
    split at h
    · simp only [Bool.and_eq_true, Bool.not_eq_true', beq_iff_eq] at h
      obtain ⟨⟨⟨⟨⟨⟨h1, h2⟩, h3⟩, h4⟩, hh⟩, h5⟩, h6⟩ := h
      exact s_try ok (own hh) hsc h1 h2 h3 h4 (fun r0 H0 ex pn xe po ok' => sSs b _ C _ _ sc _ (fun _ => ⟨po, (own hh).st, (own hh).fr⟩) ok' hsc h5)
        (fun a dx cn oe pn ok' => sSs s0 B { C with hot := true } _ _ sc _ (fun z => by cases z) ok' hsc h6)
    · cases h
  | .tryAs2 tb i b s0, B, C, X, G, sc, s, own, ok, hsc, h => by
    simp only [kS] at h
    split at h
    · simp only [Bool.and_eq_true, Bool.not_eq_true', beq_iff_eq] at h
      obtain ⟨⟨⟨⟨⟨⟨⟨⟨h1, _⟩, h2⟩, h3⟩, h4⟩, h5⟩, hh⟩, h6⟩, h7⟩ := h
      exact s_try2 ok (own hh) hsc h1 h2 h3 h4 h5 (fun r0 H0 ex pn xe po ok' => sSs b _ C _ _ sc _ (fun _ => ⟨po, (own hh).st, (own hh).fr⟩) ok' hsc h6)
        (fun a dx cn oe pn ok' => sSs s0 B { C with hot := true } _ _ sc _ (fun z => by cases z) ok' hsc h7)
    · cases h
  | .tryOn tb b s0, B, C, X, G, sc, s, own, ok, hsc, h => by
    simp only [kS] at h
    split at h
    · simp only [Bool.and_eq_true, Bool.not_eq_true'] at h
      obtain ⟨⟨⟨⟨h1, h4⟩, hh⟩, h5⟩, h6⟩ := h
      exact s_tryOn ok (own hh) hsc h1 h4 (fun r0 H0 ex pn xe po ok' => sSs b _ C _ _ sc _ (fun _ => ⟨po, (own hh).st, (own hh).fr⟩) ok' hsc h5)
        (fun a oe pn ok' => sSs s0 B { C with hot := true } _ _ sc _ (fun z => by cases z) ok' hsc h6)
    · cases h
theorem sSs : ∀ (ir : Ss) (B : Bk1) (C : Ck) (X : Cx) (G : Gam) (sc : Scope) (ss : List Stmt), (C.hot = false → Own X) → XOk C B L G X sc → X.env.scope = sc → kSs C sc ir ss = true → PSs X ss (LS B (wSs ir G))
  | .nil, B, C, X, G, sc, ss, own, ok, hsc, h => by
    cases ss with
    | nil =>
      refine PSs.imp pss_nil fun K' σ H q => ?_
      obtain ⟨r, S, e, K, hS, hO, hw, hk⟩ := q
      simp only [wSs] at hw
      exact hk.nx e S r H σ hw .refl hS hO
    | cons _ _ => simp [kSs] at h
  | .cons s1 r1, B, C, X, G, sc, ss, own, ok, hsc, h => by
    cases ss with
    | nil => simp [kSs] at h
    | cons s rest =>
      simp only [kSs, Bool.and_eq_true] at h
      refine PSs.imp (pss_cons (sS s1 B C X G sc s own ok hsc h.1) (sSs r1 B C X G sc rest own ok hsc h.2)) fun K' σ H q => ?_
      obtain ⟨r, S, e, K, hS, hO, hw, hk⟩ := q
      simp only [wSs] at hw
      exact ⟨r, S, e, _, hS, hO, hw, hk.seq (w := wSs r1 G)⟩
end
end
end M

set_option Elab.async false
set_option maxRecDepth 100000
set_option maxHeartbeats 16000000
/-! M16: a checked body keeps its function's promise. -/
namespace M
open PySem L2
open PyProof.Rows hiding St

def Rg.cut (r : Rg) (k : Nat) : Rg := ⟨r.c.take k, r.z⟩
mutual
/-- all cells that it names lie below k -/
def lowD (k : Nat) : D → Prop
  | .ref n => n < k
  | .tup ds => lowDs k ds
  | .lst ds => lowDs k ds
  | .rol ds => lowDs k ds
  | .ins _ _ ds => lowDs k ds
  | .dct _ vs => lowDs k vs
  | .exc _ _ _ _ ds => lowDs k ds
  | _ => True
def lowDs (k : Nat) : List D → Prop
  | [] => True
  | d :: r => lowD k d ∧ lowDs k r
end
def lowC (k : Nat) : Cell → Prop
  | .lst ds => lowDs k ds
  | .ins _ _ ds => lowDs k ds
  | .dct _ _ vs => lowDs k vs
theorem lowDs_all {k : Nat} : ∀ {ds : List D}, (∀ d ∈ ds, lowD k d) → lowDs k ds
  | [], _ => trivial
  | d :: r, h => ⟨h d (by simp), lowDs_all fun x hx => h x (by simp [hx])⟩
mutual
/-- what a value is when the cells from k on are forgotten -/
inductive Fz (k : Nat) (S : Store) : D → D → Prop
  | low {d : D} : lowD k d → Fz k S d d
  | ref {n : Nat} {ds es : List D} : k ≤ n → S[n]? = some (.lst ds) → Fzs k S ds es → Fz k S (.ref n) (.lst es)
  | refI {n : Nat} {c : Str} {ns : List Str} {ds es : List D} : k ≤ n → S[n]? = some (.ins c ns ds) → Fzs k S ds es → Fz k S (.ref n) (.ins c ns es)
  | refD {n : Nat} {lk : Bool} {ks : List Key} {ds es : List D} : k ≤ n → S[n]? = some (.dct lk ks ds) → Fzs k S ds es → Fz k S (.ref n) (.dct ks es)
  | dct {ks : List Key} {ds es : List D} : Fzs k S ds es → Fz k S (.dct ks ds) (.dct ks es)
  | tup {ds es : List D} : Fzs k S ds es → Fz k S (.tup ds) (.tup es)
  | lst {ds es : List D} : Fzs k S ds es → Fz k S (.lst ds) (.lst es)
  | ins {c : Str} {ns : List Str} {ds es : List D} : Fzs k S ds es → Fz k S (.ins c ns ds) (.ins c ns es)
  | exc {a dx : Addr} {c : Str} {ns : List Str} {ds es : List D} : Fzs k S ds es → Fz k S (.exc a dx c ns ds) (.exc a dx c ns es)
inductive Fzs (k : Nat) (S : Store) : List D → List D → Prop
  | nil : Fzs k S [] []
  | cons {d e : D} {ds es : List D} : Fz k S d e → Fzs k S ds es → Fzs k S (d :: ds) (e :: es)
end
theorem Fzs.low {k : Nat} {S : Store} : ∀ {ds : List D}, lowDs k ds → Fzs k S ds ds
  | [], _ => .nil
  | _ :: _, h => .cons (.low h.1) (Fzs.low h.2)
theorem Fzs.len {k : Nat} {S : Store} : ∀ {ds es : List D}, Fzs k S ds es → ds.length = es.length
  | _, _, .nil => rfl
  | _, _, .cons _ h => by simp [h.len]

section
variable {B : Bk} {r r' r2 : Rg} {H H' H2 : Hp} {S S' : Store} {k : Nat}
theorem Rg.cut_not {a : Addr} (h : a ∉ r) : a ∉ r.cut k := by
  obtain ⟨h1, h2⟩ := Rg.not.mp h
  exact Rg.not.mpr ⟨fun m => h1 (List.mem_of_mem_take m), h2⟩
mutual
theorem RV.low : ∀ {d : D} {v : V}, RV B r H d v → lowD r.c.length d
  | _, _, .non => trivial
  | _, _, .bl _ => trivial
  | _, _, .int _ => trivial
  | _, _, .str _ => trivial
  | _, _, .ty _ => trivial
  | _, _, .ref h => by
    have := (List.getElem?_eq_some_iff.mp h).1
    simpa only [lowD] using this
  | _, _, .tup _ _ hs => by simp only [lowD]; exact RVs.low hs
  | _, _, .tupK _ hs => by simp only [lowD]; exact RVs.low hs
  | _, _, .lst _ _ hs => by simp only [lowD]; exact RVs.low hs
  | _, _, .rol _ _ hs => by simp only [lowD]; exact RVs.low hs
  | _, _, .rolK _ hs => by simp only [lowD]; exact RVs.low hs
  | _, _, .ins _ _ _ _ hs => by simp only [lowD]; exact RVs.low hs
  | _, _, .exc _ _ _ _ hs => by simp only [lowD]; exact RVs.low hs
  | _, _, .dct _ _ _ hs => by simp only [lowD]; exact RVs.low hs
theorem RVs.low : ∀ {ds : List D} {vs : List V}, RVs B r H ds vs → lowDs r.c.length ds
  | _, _, .nil => trivial
  | _, _, .cons h hs => ⟨RV.low h, RVs.low hs⟩
end
mutual
theorem RV.cut : ∀ {d : D} {v : V}, lowD k d → RV B r H d v → RV B (r.cut k) H d v
  | _, _, _, .non => .non
  | _, _, _, .bl b => .bl b
  | _, _, _, .int i => .int i
  | _, _, _, .str y => .str y
  | _, _, _, .ty n => .ty n
  | _, _, l, .ref h => .ref (by
    have l' : _ < k := l
    show (r.c.take k)[_]? = _
    rw [List.getElem?_take_of_lt l']; exact h)
  | _, _, l, .tup n h hs => .tup (Rg.cut_not n) h (RVs.cut l hs)
  | _, _, l, .tupK h hs => .tupK h (RVs.cut l hs)
  | _, _, l, .lst n h hs => .lst (Rg.cut_not n) h (RVs.cut l hs)
  | _, _, l, .rol n h hs => .rol (Rg.cut_not n) h (RVs.cut l hs)
  | _, _, l, .rolK h hs => .rolK h (RVs.cut l hs)
  | _, _, l, .ins c n e h hs => .ins c (Rg.cut_not n) e h (RVs.cut l hs)
  | _, _, l, .exc c n e h hs => .exc c (Rg.cut_not n) e h (RVs.cut l hs)
  | _, _, l, .dct n e h hs => .dct (Rg.cut_not n) e h (RVs.cut l hs)
theorem RVs.cut : ∀ {ds : List D} {vs : List V}, lowDs k ds → RVs B r H ds vs → RVs B (r.cut k) H ds vs
  | _, _, _, .nil => .nil
  | _, _, l, .cons h hs => .cons (RV.cut l.1 h) (RVs.cut l.2 hs)
end
theorem RC.low {c : Cell} {a : Addr} (h : RC B r H c a) : lowC r.c.length c := by
  cases h with
  | lst _ h => exact h.low
  | ins _ _ _ h => exact h.low
  | dct _ _ h => exact h.low
  | dctL _ _ h => exact h.low
mutual
theorem lowD.mono {j k : Nat} (h : j ≤ k) : ∀ {d : D}, lowD j d → lowD k d
  | .ref n, l => Nat.lt_of_lt_of_le (show n < j from l) h
  | .tup ds, l => lowDs.mono h (ds := ds) l
  | .lst ds, l => lowDs.mono h (ds := ds) l
  | .rol ds, l => lowDs.mono h (ds := ds) l
  | .ins _ _ ds, l => lowDs.mono h (ds := ds) l
  | .exc _ _ _ _ ds, l => lowDs.mono h (ds := ds) l
  | .dct _ vs, l => lowDs.mono h (ds := vs) l
  | .non, _ => trivial
  | .bl _, _ => trivial
  | .int _, _ => trivial
  | .str _, _ => trivial
  | .ty _, _ => trivial
theorem lowDs.mono {j k : Nat} (h : j ≤ k) : ∀ {ds : List D}, lowDs j ds → lowDs k ds
  | [], _ => trivial
  | _ :: _, l => ⟨lowD.mono h l.1, lowDs.mono h l.2⟩
end
theorem lowC.mono {j k : Nat} (h : j ≤ k) {c : Cell} (l : lowC j c) : lowC k c := by
  cases c with
  | lst ds => exact lowDs.mono h l
  | ins _ _ ds => exact lowDs.mono h l
  | dct _ _ vs => exact lowDs.mono h l
theorem RC.cut {c : Cell} {a : Addr} (l : lowC k c) (h : RC B r H c a) : RC B (r.cut k) H c a := by
  cases h with
  | lst h hs => exact .lst h (hs.cut l)
  | ins c n h hs => exact .ins c n h (hs.cut l)
  | dct n h hs => exact .dct n h (hs.cut l)
  | dctL n h hs => exact .dctL n h (hs.cut l)
/-- the cells below k, as a caller may see them -/
def Cuts (S S' : Store) (k : Nat) : Prop := S.length ≤ k ∧ k ≤ S'.length ∧ ∀ n, n < k → S'[n]? = S[n]? ∨ ∃ c, S'[n]? = some c ∧ lowC k c
theorem Cuts.low {n : Nat} {c : Cell} (h : Cuts S S' k) (s : RS B r S H) (hn : n < k) (hc : S'[n]? = some c) : lowC k c := by
  rcases h.2.2 n hn with q | ⟨c', q, l⟩
  · rw [hc] at q
    have hl : n < r.c.length := by rw [s.len]; exact (List.getElem?_eq_some_iff.mp q.symm).1
    have := (s.at_ n c _ q.symm (List.getElem?_eq_getElem hl)).low
    exact this.mono (by rw [s.len]; exact h.1)
  · rw [hc] at q; cases q; exact l
theorem RS.cut (h : Cuts S S' k) (s : RS B r S H) (s' : RS B r' S' H') : RS B (r'.cut k) (S'.take k) H' where
  len := by show (r'.c.take k).length = _; rw [List.length_take, List.length_take, s'.len]
  nd := s'.nd.sublist (List.take_sublist _ _)
  zt := s'.zt
  zc := fun a ha => s'.zc a (List.mem_of_mem_take ha)
  at_ := fun n c a hc ha => by
    have hn : n < k := by
      have := (List.getElem?_eq_some_iff.mp hc).1
      rw [List.length_take] at this; omega
    rw [List.getElem?_take_of_lt hn] at hc
    have ha' : (r'.c.take k)[n]? = some a := ha
    rw [List.getElem?_take_of_lt hn] at ha'
    exact (s'.at_ n c a hc ha').cut (h.low s hn hc)
theorem Ex.cut (h : Cuts S S' k) (s : RS B r S H) (x : Ex r H r' H') : Ex r H (r'.cut k) H' where
  pre := by
    obtain ⟨nw, e, hn⟩ := x.pre
    refine ⟨nw.take (k - r.c.length), ?_, fun a ha => hn a (List.mem_of_mem_take ha)⟩
    show r'.c.take k = _
    rw [e, List.take_append, List.take_of_length_le (by rw [s.len]; exact h.1)]
  zz := x.zz
  keep := x.keep
  there := x.there
theorem cut_mem {a : Addr} (m : a ∈ (r.cut k).c) : ∃ j, j < k ∧ r.c[j]? = some a := by
  have m' : a ∈ r.c.take k := m
  obtain ⟨j, hj⟩ := List.mem_iff_getElem?.mp m'
  have hjk : j < k := by
    have := (List.getElem?_eq_some_iff.mp hj).1
    rw [List.length_take] at this; omega
  rw [List.getElem?_take_of_lt hjk] at hj
  exact ⟨j, hjk, hj⟩
mutual
theorem RV.fz (s' : RS B r' S' H') : ∀ {d e : D} {v : V}, Fz k S' d e → RV B r' H' d v → RV B (r'.cut k) H' e v
  | _, _, _, .low l, h => h.cut l
  | _, _, _, .ref hn hS hs, h => by
    cases h with
    | ref ha =>
      rename_i a
      have q := s'.at_ _ _ a hS ha
      cases q with
      | lst h1 h2 =>
        refine .lst (Rg.not.mpr ⟨fun m => ?_, s'.zc _ (List.mem_of_getElem? ha)⟩) h1 (RVs.fz s' hs h2)
        obtain ⟨j, hjk, hj⟩ := cut_mem m
        have := inj_get s'.nd hj ha
        omega
  | _, _, _, .refD hn hS hs, h => by
    cases h with
    | ref ha =>
      rename_i a
      have q := s'.at_ _ _ a hS ha
      have na : a ∉ r'.cut k := by
        refine Rg.not.mpr ⟨fun m => ?_, s'.zc _ (List.mem_of_getElem? ha)⟩
        obtain ⟨j, hjk, hj⟩ := cut_mem m
        have := inj_get s'.nd hj ha
        omega
      cases q with
      | dct l h1 h2 => exact .dct na (by rw [l, hs.len]) (.inl h1) (RVs.fz s' hs h2)
      | dctL l h1 h2 => exact .dct na (by rw [l, hs.len]) (.inr ⟨_, h1⟩) (RVs.fz s' hs h2)
  | _, _, _, .refI hn hS hs, h => by
    cases h with
    | ref ha =>
      rename_i a
      have q := s'.at_ _ _ a hS ha
      cases q with
      | ins c1 n1 h1 h2 =>
        refine .ins c1 (Rg.not.mpr ⟨fun m => ?_, s'.zc _ (List.mem_of_getElem? ha)⟩) (by rw [n1, hs.len]) h1 (RVs.fz s' hs h2)
        obtain ⟨j, hjk, hj⟩ := cut_mem m
        have := inj_get s'.nd hj ha
        omega
  | _, _, _, .tup hs, h => by
    cases h with
    | tup n h1 h2 => exact .tup (Rg.cut_not n) h1 (RVs.fz s' hs h2)
    | tupK h1 h2 => exact .tupK h1 (RVs.fz s' hs h2)
  | _, _, _, .lst hs, h => by
    cases h with
    | lst n h1 h2 => exact .lst (Rg.cut_not n) h1 (RVs.fz s' hs h2)
  | _, _, _, .ins hs, h => by
    cases h with
    | ins c n l h1 h2 => exact .ins c (Rg.cut_not n) (by rw [l, hs.len]) h1 (RVs.fz s' hs h2)
  | _, _, _, .dct hs, h => by
    cases h with
    | dct n l h1 h2 => exact .dct (Rg.cut_not n) (by rw [l, hs.len]) h1 (RVs.fz s' hs h2)
  | _, _, _, .exc hs, h => by
    cases h with
    | exc c n l h1 h2 => exact .exc c (Rg.cut_not n) (by rw [l, hs.len]) h1 (RVs.fz s' hs h2)
theorem RVs.fz (s' : RS B r' S' H') : ∀ {ds es : List D} {vs : List V}, Fzs k S' ds es → RVs B r' H' ds vs → RVs B (r'.cut k) H' es vs
  | _, _, _, .nil, h => by cases h; exact .nil
  | _, _, _, .cons f fs, h => by
    cases h with
    | cons h1 h2 => exact .cons (RV.fz s' f h1) (RVs.fz s' fs h2)
end
/-- a body's end, from the caller's side -/
def Fin (S : Store) (F : Post) (d : D) (S' : Store) : Prop := ∃ k d', Cuts S S' k ∧ Fz k S' d d' ∧ F d' (S'.take k)
theorem Fin.go {F : Post} {Q : VK} {d : D} {v : V} (f : Fn B r H F Q) (s : RS B r S H) (x : Ex r H r' H') (s' : RS B r' S' H') (h : Fin S F d S') (hv : RV B r' H' d v) : Q v H' := by
  obtain ⟨k, d', hc, hz, hF⟩ := h
  exact f d' _ _ H' v hF (x.cut hc s) (RS.cut hc s s') (hv.fz s' hz)
/-- an exception that leaves a body, from the caller's side -/
def FinX (S : Store) (Y : Post) (d : D) (S' : Store) : Prop := ∃ k d', Cuts S S' k ∧ Fz k S' d d' ∧ Y d' (S'.take k)
theorem FinX.go {Y : Post} {E : XK} {d : D} {c : Value} {dx : Option Addr} (f : FnX B r H Y E) (s : RS B r S H) (x : Lnk r H r' H') (s' : RS B r' S' H') (h : FinX S Y d S') (hv : XV B r' H' d c dx) : E c dx H' := by
  obtain ⟨k, d', hc, hz, hF⟩ := h
  have car : Car r' H' (r'.un r.z) H' := .zout x.zs
  have s2 := s'.zout x.zs
  cases hv with
  | own h1 h2 h3 h4 h5 =>
    have n4 := (car.keep _ _ h3 h4).2
    refine f d' _ _ H' _ _ hF (x.out.cut hc s) (RS.cut hc s s2) ?_
    cases hz with
    | low l => exact .own h1 h2 h3 (Rg.cut_not n4) ((h5.car car).cut l)
    | ins hs => exact .own h1 (by rw [h2, hs.len]) h3 (Rg.cut_not n4) (RVs.fz s2 hs (h5.car car))
theorem FinX.same {Y : Post} {d : D} (hl : lowD S.length d) (h : Y d S) : FinX S Y d S := ⟨S.length, d, ⟨Nat.le_refl _, Nat.le_refl _, fun n hn => .inl rfl⟩, .low hl, by rw [List.take_length]; exact h⟩
/-- cells were added, none changed -/
theorem FinX.pure {Y : Post} {d d' : D} {T : Store} (hz : Fz S.length (S ++ T) d d') (h : Y d' S) : FinX S Y d (S ++ T) :=
  ⟨S.length, d', ⟨Nat.le_refl _, by simp, fun n hn => .inl (List.getElem?_append_left hn)⟩, hz, by rw [List.take_left']; exact h; rfl⟩
/-- cells were added, none changed -/
theorem Fin.pure {F : Post} {d d' : D} {T : Store} (hz : Fz S.length (S ++ T) d d') (h : F d' S) : Fin S F d (S ++ T) :=
  ⟨S.length, d', ⟨Nat.le_refl _, by simp, fun n hn => .inl (List.getElem?_append_left hn)⟩, hz, by rw [List.take_left']; exact h; rfl⟩
theorem Fin.same {F : Post} {d : D} (hl : lowD S.length d) (h : F d S) : Fin S F d S := by
  have := Fin.pure (S := S) (T := []) (F := F) (.low hl) h
  rwa [List.append_nil] at this
end

section
variable {B : Bk} {C : Ck} {P : Program} {w : World} {base : Heap} {L : Nat}
/-- the values at the entry -/
def startD (n : Nat) (ds : List D) : Env' := ds.map some ++ List.replicate (n - ds.length) none
theorem ro_start {N : List Str} {r : Rg} {H : Hp} {ds : List D} {vs : List V} (h : RVs B r H ds vs) : Ro ⟨B, r, H⟩ r H (startD N.length ds) (L2.start N vs) where
  ln := .refl
  len := by simp [startD, L2.start, h.length]
  at_ := fun i d hd => by
    have hl : i < ds.length := by
      unfold startD at hd
      by_cases hi : i < ds.length
      · exact hi
      · rw [List.getElem?_append_right (by simpa using hi), List.getElem?_replicate] at hd
        split at hd <;> cases hd
    have hd' : ds[i]? = some d := by
      unfold startD at hd
      rw [List.getElem?_append_left (by simpa using hl), List.getElem?_map] at hd
      cases e : ds[i]? with
      | none => rw [e] at hd; cases hd
      | some a => rw [e] at hd; cases hd; rfl
    obtain ⟨v, q1, q2⟩ := h.get hd'
    refine ⟨v, ?_, q2⟩
    unfold L2.start
    rw [List.getElem?_append_left (by rw [List.length_map, ← h.length]; exact hl), List.getElem?_map, q1]; rfl
/-- what a caller hands over names known cells alone -/
def Lw (S : Store) (ds : List D) : Prop := lowDs S.length ds ∧ ∀ c ∈ S, lowC S.length c
theorem lw_of {r : Rg} {H : Hp} {S : Store} {ds : List D} {vs : List V} (hS : RS B r S H) (h : RVs B r H ds vs) : Lw S ds := by
  refine ⟨by rw [← hS.len]; exact h.low, fun c hc => ?_⟩
  obtain ⟨n, hn⟩ := List.mem_iff_getElem?.mp hc
  have hl : n < r.c.length := by rw [hS.len]; exact (List.getElem?_eq_some_iff.mp hn).1
  have := (hS.at_ n c _ hn (List.getElem?_eq_getElem hl)).low
  rwa [hS.len] at this
/-- behind a body -/
abbrev EndK (S0 : Store) (F : Post) : Dn := { nx := fun _ S' => Fin S0 F .non S', rt := Fin S0 F, bk := fun _ _ => False, ct := fun _ _ => False }
/-- .. by an exception -/
def FX (S0 : Store) (Y : Post) : D → Env' → Store → Prop := fun d _ S' => FinX S0 Y d S'
/-- a body keeps a promise -/
abbrev Kp (fs : List MSp) (gl : List D) (ir : Ss) (n p : Nat) (ms : MSp) : Prop := ∀ ds S0 F Y, ms ds S0 F Y → Lw S0 ds → ds.length = p → wSs ir ⟨fs, gl, FX S0 Y, none⟩ (EndK S0 F) (startD n ds) S0
/-- how a module's names stand, for a function's body -/
structure Tab (B : Bk) (C : Ck) (P : Program) (w : World) (base : Heap) (L : Nat) (fs : List MSp) (gl : List D) : Prop where
  gl : ∀ (k : Nat) (x : Str), C.gl[k]? = some x → ∃ d u v, gl[k]? = some d ∧ B.mg x = some u ∧ RelV v u ∧ ∀ r H, RV B r H d v
  bt : ∀ x, hasBt C x = true → B.mg x = none
  im : ∀ x id, C.im.lookup x = some id → B.mg x = some (.builtin id)
  fn : ∀ (k : Nat) (x : Str) (ps : List Str) (pats : List (Nat × List Str)), C.fn[k]? = some (x, ps, pats) → ∃ ms, fs[k]? = some ms ∧ Cal B P w base L x ps pats ms
  ec : ∀ c ns, C.ec.contains (c, ns) = true → ECls P w B.K B.mg base L c ns
  exm : ∀ c x b, C.exm.contains (c, x, b) = true → XMt B.K B.mg c x b
  kd_ : ∀ x zs, C.kd.lookup x = some zs → KdAt w B.K B.mg x zs
  cl : ∀ c fs, C.cl.contains (c, fs) = true → ClAt B c fs
theorem vals_len {vs : List V} {us : List Value} (h : Vals vs us) : vs.length = us.length := by
  induction h with
  | nil => rfl
  | cons _ _ ih => simp [ih]
theorem fx_of {f : Addr} {name qual : Str} {params : Arguments} {body : List Stmt} {scope : Scope} {dV kV doc pm cdv ct oc : Value} {an od : Option Addr} {osl : Array (Option Value)} {ps : List Str} {ms : MSp} {ir : Ss} {fs : List MSp} {gl : List D}
    (lk : B.K.lookup f = some ⟨oc, od, .func (PySem.W.fnOf name qual params body scope dV kV doc pm an cdv ct), osl⟩) (hcd : PySem.W.codeIn B.K cdv qual = true) (S : FnScope C.N ps scope) (hk : kSs C scope ir body = true)
    (tab : Tab B C P w base L fs gl)
    (hms : Kp fs gl ir C.N.length ps.length ms) :
    Fx P w B.K B.mg base (L + 1) f (PySem.W.fnOf name qual params body scope dV kV doc pm an cdv ct) ps (LSp B ms) := by
  refine ⟨fun A outer s H args us vs Q E hr hg e0 hb hul rv hsp => ?_⟩
  have hl : vs.length = ps.length := by rw [vals_len rv, hul]
  have KX : B.K.In s.heap := e0.mod.kin.keeps fun b o e => (e0.bs b o e).1
  have lim : s.heap.NoLimit := e0.mod.nolimit.keeps fun b o e => (e0.bs b o e).1
  have hkind : ∀ y ∈ ps.zip us, scope.names.lookup y.1 = some .local ∨ (scope.names.lookup y.1 = some .cell ∧ ((cellsFrom (s.heap.objs.size + 1) scope.names []).lookup y.1).isSome = true) := fun ⟨n, v⟩ hy => by
    rcases S.par n (List.of_mem_zip hy).1 with q | q
    · exact .inl q
    · exact .inr ⟨q, PySem.W.cellsFrom_some _ _ _ (.inl q)⟩
  refine codeAny_call_function hr.depth (KX _ _ lk) rfl S.co S.gen rfl (PySem.W.codeRec_of KX hcd) (hb _ _ _ _ ?_)
  refine wpAny_newFunctionEnv_cells S.kind hkind fun env he s1 x => ?_
  subst he
  refine ⟨lim.keeps x.toInCall.keep, codeAny_func ?_⟩
  obtain ⟨r, S0, ds, F, Y, hS, hds, hm, hF, hX⟩ := hsp
  let X := cxOf (L2.CX P w) P w B.K B.mg base C.N qual scope f cdv A outer s H E
  have ok : XOk C ⟨B, r, H⟩ L ⟨fs, gl, FX S0 Y, none⟩ X scope :=
    { hK := rfl, hmg := rfl, hN := rfl, nd := S.nd, calm := fun _ => rfl, rel := fun x k h => .inl h, kd := S.kind, cel := fun _ _ => rfl, room := fun _ => hr.deeper _, un := (by have := (hr.deeper X.env).un; show (A.deeper X.env).units + 65 < cLine; omega), gd := hg, gl := tab.gl, bt := tab.bt, im := tab.im, fn := tab.fn,
      tk := (takes_of (X := X) (E := E) rfl rfl rfl rfl).imp fun c d σ H' ⟨r1, S1, e1, d0, s1, o1, xv, hf⟩ => FinX.go hX hS o1.ln s1 hf xv
      xa := fun _ _ _ h => (by cases h), ec := tab.ec, exm := tab.exm, kd_ := tab.kd_, cl := tab.cl }
  have ht := sSs ir ⟨B, r, H⟩ C X ⟨fs, gl, FX S0 Y, none⟩ scope body (fun _ => ⟨passes_of rfl, rfl, rfl⟩) ok rfl hk
  have hq : LS ⟨B, r, H⟩ (wSs ir ⟨fs, gl, FX S0 Y, none⟩) { nx := fun _ H' => Q .non H', rt := Q } (L2.start C.N vs) H := by
    refine ⟨r, S0, _, _, hS, ro_start hds, hms ds S0 F Y hm (lw_of hS hds) (by rw [hds.length, hl]), ?_⟩
    exact ⟨fun e' S' r' H' σ' h x s' o => Fin.go hF hS x s' h .non, fun _ _ _ _ _ h => h.elim, fun _ _ _ _ _ h => h.elim, fun d S' r' H' v h x s' hv => Fin.go hF hS x s' h hv⟩
  have I : Inv X [] (L2.start C.N vs) H s1 := inv_start S hr.hd e0 hl rv x
  refine wpAny_mono (ht.run [] s1 (L2.start C.N vs) H _ I hq) (fun fl s' hs => ?_) fun e s' hs => hs
  have fin : ∀ {σ' : L2.St} {H' : Hp} {v : V} {u : Value}, Inv X [] σ' H' s' → RelV v u → Q v H' → CE outer P w H s Q u s' :=
    fun {σ' H' v u} J rv q => ⟨v, H', J.os, J.bare, J.base, J.hok, rv, q⟩
  cases fl with
  | ret u =>
    obtain ⟨v, σ', H', J, rv, q⟩ := hs
    exact fin J rv q
  | next =>
    obtain ⟨σ', H', J, q⟩ := hs
    exact fin (v := V.non) (u := Value.none) J rfl q
  | brk =>
    obtain ⟨_, _, _, q⟩ := hs
    exact False.elim q
  | cont =>
    obtain ⟨_, _, _, q⟩ := hs
    exact False.elim q
end
end M

set_option Elab.async false
set_option maxRecDepth 100000
set_option maxHeartbeats 16000000
/-! M17: a law's end. -/
namespace M
open PySem L2
open PyProof.Rows hiding St

theorem rvs_ints {B : Bk} {r : Rg} {H : Hp} : ∀ ns : List Int, RVs B r H (ns.map D.int) (ns.map V.int)
  | [] => .nil
  | n :: r => .cons (.int n) (rvs_ints r)
/-- the script, as the law's def is given it -/
theorem lsp_script {B : Bk} {H : Hp} {a : Addr} {ns : List Int} {ms : MSp} (h : SqL B.K H a (ns.map V.int)) (hm : ms [.rol (ns.map .int)] [] (fun d _ => d = .bl true) fun _ _ => False) :
    LSp B ms [.ref a] H (fun v _ => v = .bl true) fun _ _ _ => False := by
  have no : a ∉ (⟨[], []⟩ : Rg) := Rg.not.mpr ⟨by simp, by simp⟩
  refine ⟨⟨[], []⟩, [], [.rol (ns.map .int)], _, _, ⟨rfl, List.nodup_nil, fun a ha => by simp at ha, fun a ha => by simp at ha, fun n c a hc => by simp at hc⟩, .cons ?_ .nil, hm, fun d S' r' H' v hd _ _ hv => ?_, fun _ _ _ _ _ _ y => y.elim⟩
  · rcases h with h | h
    · exact .rol no h (rvs_ints ns)
    · exact .rolK (fun H' => .inr h) (rvs_ints ns)
  · subst hd; cases hv; rfl
/-- THE HEAD, for promises of this layer -/
theorem call_law {P : Program} {w : World} {K : PySem.W.Frag} {mg mb : Str → Option Value} {L : Nat} {fa a : Addr} {fd : FuncData} {x : Str} {ms : MSp} {s1 : Shared} {vs : List Value} {ns : List Int}
    (KX : K.In s1.heap) (h1 : s1.heap.Ns mainGlobals mg) (h2 : s1.heap.Ns builtinsNs mb) (h3 : ∀ x : Str, x ≠ "__name__" → mb x = bootBuiltins x) (h4 : s1.heap.NoLimit) (h5 : s1.gens = #[])
    (ha : s1.heap.get? a = some { cls := .type "list", data := .seq vs.toArray }) (hi : IntsAre vs ns) (hl : ns.length ≤ sizeLine) (hr : Room L callerA)
    (F : ∀ base : Heap, K.In base → base.Ns mainGlobals mg → Fx P w K mg base L fa fd [x] (LSp ⟨K, mg⟩ ms)) (hbind : ∀ (s : Shared) (u : Value), BindsTo s fd ⟨[u], []⟩ [(x, u)])
    (hms : ms [.rol (ns.map .int)] [] (fun d _ => d = .bl true) fun _ _ => False) :
    codeAny (model P w) callerA (.call (.ref fa) ⟨[.ref a], []⟩) (fun r s' => r = .ok (.ret (.bool true)) ∧ OldK s1.heap s'.heap ∧ s'.os = s1.os ∧ AllBare s'.gens) s1 := by
  have rv := vals_ints hi
  have hvl := hi.length
  have main : ∀ H : Hp, Only H → SqL K H a (ns.map V.int) → HOk P w H s1.heap → (∀ b, H b ≠ none → b = a) → (H a ≠ none → K.lookup a = none) →
      codeAny (model P w) callerA (.call (.ref fa) ⟨[.ref a], []⟩) (fun r s' => r = .ok (.ret (.bool true)) ∧ OldK s1.heap s'.heap ∧ s'.os = s1.os ∧ AllBare s'.gens) s1 := by
    intro H only script hok oneA notK
    have hid : ∀ {b : Addr} {o : Obj}, s1.heap.get? b = some o → H b = none → (hidT s1.heap H).get? b = some o := fun e n => hidT_get e n
    have dictA : ∀ {b : Addr} {o : Obj} {es : Array DictEntry} {ep : Nat}, s1.heap.get? b = some o → o.data = .dict es ep → H b = none := fun {b o es ep} e d => by
      cases q : H b with
      | none => rfl
      | some u =>
        obtain rfl : b = a := oneA b (by rw [q]; simp)
        rw [ha] at e; cases e
        have d' : Data.seq vs.toArray _ = Data.dict es ep := d
        cases d'
    have nsOf : ∀ {b : Addr} {m : Str → Option Value}, s1.heap.Ns b m → (hidT s1.heap H).Ns b m := fun {b m} ⟨o, es, ep, e, d, r⟩ => ⟨o, es, ep, hid e (dictA e d), d, r⟩
    have kin : K.In (hidT s1.heap H) := fun b o e => hid (KX b o e) (by
      cases q : H b with
      | none => rfl
      | some u =>
        obtain rfl : b = a := oneA b (by rw [q]; simp)
        rw [notK (by rw [q]; simp)] at e; cases e)
    have md : Mod K mg (hidT s1.heap H) := ⟨kin, nsOf h1, ⟨mb, nsOf h2, h3⟩, let ⟨mc, z1, z2⟩ := h4; ⟨mc, nsOf z1, z2⟩⟩
    have e0 : Env0 P w K mg (hidT s1.heap H) callerA [] s1 H :=
      ⟨rfl, md, fun b o e => of_hidT e, Nat.le_of_eq (hidT_size _ _), trivial, fun b hb => absurd (show b ∈ ([] : List Addr) from hb) (by simp), hok, .of_eq h5⟩
    refine codeAny_mono ((F _ kin (nsOf h1)).run callerA [] s1 H ⟨[.ref a], []⟩ [.ref a] [.ref a] (fun v _ => v = .bl true) (fun _ _ _ => False) hr rfl e0 (hbind s1 (.ref a)) rfl (.cons rfl .nil) (lsp_script (B := ⟨K, mg⟩) script hms)) fun res s' h => ?_
    cases res with
    | error e =>
      obtain ⟨_, _, _, _, _, _, _, _, _, _, _, _, _, _, _, _, _, _, _, _, _, z⟩ := h
    | ok fl =>
      cases fl with
      | next => exact False.elim h
      | brk => exact False.elim h
      | cont => exact False.elim h
      | ret u =>
        obtain ⟨v, H', os, bare, un, hok', r', q⟩ := h
        obtain rfl : v = .bl true := q
        obtain rfl : u = Value.bool true := r'
        refine ⟨rfl, OldK.of_keep fun b o e => ?_, os, bare⟩
        cases q : H b with
        | none => exact un.keep b o e q (by intro z; exact absurd (show b ∈ ([] : List Addr) from z) (by simp)) (by simp)
        | some u =>
          rcases only b with z | ⟨ob, xs, z⟩
          · rw [q] at z; cases z
          · have z2 := un.frzs b ob _ z
            obtain ⟨e1, _⟩ := hok b _ z
            obtain ⟨e2, _⟩ := hok' b _ z2
            rw [e] at e1; cases e1
            exact e2
  cases hk : K.lookup a with
  | some o =>
    have e := KX a o hk
    rw [ha] at e
    cases e
    refine main (fun _ => none) (fun _ => .inl rfl) (.inr ⟨_, vs.toArray, _, hk, rfl, rfl, rfl, by rw [List.size_toArray, hvl]; exact hl, by simpa using rv⟩) (fun b u z => by have z' : (none : Option HO) = some u := z; cases z') (fun b z => absurd rfl z) fun z => absurd rfl z
  | none =>
    refine main (fun b => if b = a then some (.frz { cls := .type "list", data := .seq vs.toArray } (.lst (ns.map V.int))) else none) (fun b => ?_) (.inl (.inr ⟨{ cls := .type "list", data := .seq vs.toArray }, if_pos rfl⟩)) (fun b u z => ?_) (fun b z => ?_) fun _ => hk
    · by_cases hb : b = a
      · exact .inr ⟨_, _, if_pos hb⟩
      · exact .inl (if_neg hb)
    · by_cases hb : b = a
      · have z' := (if_pos hb).symm.trans z
        cases z'
        subst hb
        exact ⟨ha, by rw [List.length_map]; exact hl, vs, _, rv, ha⟩
      · have z' := (if_neg hb).symm.trans z
        cases z'
    · by_cases hb : b = a
      · exact hb
      · exact absurd (if_neg hb) z
/-- what k_head leaves (case hc) -/
theorem walk_law {l : PySem.W.OpenLaw} {n L : Nat} {q : Program} {loose : List Str} {XP : (Str → Option Value) → Heap → Prop} {YP : World → Heap → Prop} {d : DefRec} {K : Params → PySem.W.Frag} {x : Str} {ms : MSp}
    (hn : l.most = some n) (hn2 : n ≤ sizeLine) (hdf : d.params.defaults = []) (hr : Room L callerA) (hY : ∀ (w : World) (h : Heap), YP w h → (K w.params).In h)
    (F : ∀ (w : World) (mg : Str → Option Value) (fa : Addr) (h : Heap), (K w.params).In h → h.Ns mainGlobals mg → mg d.name = some (.ref fa) →
      ∃ fd : FuncData, (∀ (s : Shared) (u : Value), BindsTo s fd ⟨[u], []⟩ [(x, u)]) ∧ ∀ base : Heap, (K w.params).In base → base.Ns mainGlobals mg → Fx l.prog w (K w.params) mg base L fa fd [x] (LSp ⟨K w.params, mg⟩ ms))
    (hms : ∀ ns : List Int, ns.length ≤ n → (∀ z ∈ ns, Builtin.Int.intBits z ≤ 1048576) → ms [.rol (ns.map .int)] [] (fun d _ => d = .bl true) fun _ _ => False) :
    PySem.W.WalkO q loose XP YP l.row.toRowW d [] (fun f vs => PySem.call f vs) := by
  refine Att.attach_callB hn hdf fun w s0 s1 mg mb fa o pm cd doc a vs ns G Y ho hd hcd hmg hobj hints hlen hbits hg => ?_
  have KX := hY w _ Y
  obtain ⟨fd, hb, hF⟩ := F w mg fa _ KX G.T.g hmg
  exact call_law KX G.T.g G.T.b G.T.builtins G.T.nolimit hg hobj hints (Nat.le_trans hlen hn2) hr hF hb (hms ns hlen hbits)
end M

set_option Elab.async false
set_option maxRecDepth 100000
set_option maxHeartbeats 16000000
/-! M18: a module's functions, one after another. -/
namespace M
open PySem L2
open PyProof.Rows hiding St

/-- a class's own statements -/
def clsBody : Stmt → List Stmt
  | .ClassDef _ _ _ body _ _ _ _ _ _ _ => body
  | _ => []
/-- a def of the module stands at f -/
structure FnAt (K : PySem.W.Frag) (x : Str) (st : Stmt) (f : Addr) : Prop where
  at_ : PySem.W.nsIn K mainGlobals x = some (some (.ref f))
  obj : ∃ oc od kV dc pm an cd ct sl, K.lookup f = some ⟨oc, od, .func (PySem.W.fnOf x x (defArgs st) (defBody st) (defScope st) .none kV dc pm an cd ct), sl⟩ ∧ PySem.W.codeIn K cd x = true
  kp : PySem.W.keepIn K (.ref f) = true
theorem fn_at {K : PySem.W.Frag} {x : Str} {st : Stmt} {f : Addr} {oc kV dc pm cd ct : Value} {od an : Option Addr} {sl : Array (Option Value)} {ar : Arguments} {bo : List Stmt} {sc : Scope} (h1 : PySem.W.nsIn K mainGlobals x = some (some (.ref f)))
    (h2 : K.lookup f = some ⟨oc, od, .func (PySem.W.fnOf x x ar bo sc .none kV dc pm an cd ct), sl⟩) (h3 : PySem.W.codeIn K cd x = true) (h4 : PySem.W.keepIn K (.ref f) = true) (e1 : ar = defArgs st) (e2 : bo = defBody st) (e3 : sc = defScope st) : FnAt K x st f := by
  subst e1 e2 e3
  exact ⟨h1, ⟨_, _, _, _, _, _, _, _, _, h2, h3⟩, h4⟩
/-- a name of the module that holds data -/
def GlAt (K : PySem.W.Frag) (x : Str) (d : D) : Prop := ∃ u v, PySem.W.nsIn K mainGlobals x = some (some u) ∧ RelV v u ∧ ∀ mg r H, RV ⟨K, mg⟩ r H d v
theorem gl_tup {K : PySem.W.Frag} {x : Str} {g : Addr} {oc : Value} {od : Option Addr} {its : Array Value} {n : Nat} {sl : Array (Option Value)} {vs : List V} {ds : List D} (h1 : PySem.W.nsIn K mainGlobals x = some (some (.ref g))) (h2 : K.lookup g = some ⟨oc, od, .seq its n, sl⟩)
    (h3 : oc = .type "tuple") (h4 : its.size ≤ sizeLine) (h5 : Vals vs its.toList) (h6 : ∀ mg r H, RVs ⟨K, mg⟩ r H ds vs) : GlAt K x (.tup ds) := by
  subst h3
  exact ⟨_, .ref g, h1, rfl, fun mg r H => .tupK (fun H' => .inr ⟨_, its, n, h2, rfl, rfl, h4, h5⟩) (h6 mg r H)⟩
theorem gl_int {K : PySem.W.Frag} {x : Str} {i : Int} {t : Tok} (h1 : PySem.W.nsIn K mainGlobals x = some (some (.int i t))) : GlAt K x (.int i) := ⟨_, .int i, h1, ⟨t, rfl⟩, fun _ _ _ => .int i⟩
theorem gl_str {K : PySem.W.Frag} {x : Str} {i : Str} {t : Tok} (h1 : PySem.W.nsIn K mainGlobals x = some (some (.str i t))) : GlAt K x (.str i) := ⟨_, .str i, h1, ⟨t, rfl⟩, fun _ _ _ => .str i⟩

section
variable {K : PySem.W.Frag} {mg : Str → Option Value} {C C' : Ck} {P : Program} {w : World} {base : Heap} {L : Nat} {fs : List MSp} {gl : List D}
theorem Cal.mono {B : Bk} {x : Str} {ps : List Str} {pats : List (Nat × List Str)} {ms : MSp} {j k : Nat} (c : Cal B P w base j x ps pats ms) (h : j ≤ k) : Cal B P w base k x ps pats ms := by
  obtain ⟨⟨f, fd, L', h1, h2, h3, h4⟩⟩ := c
  exact ⟨⟨f, fd, L', Nat.le_trans h1 h, h2, h3, h4⟩⟩
theorem ECls.mono {c : Str} {ns : List Str} {j k : Nat} (e : ECls P w K mg base j c ns) (h : j ≤ k) : ECls P w K mg base k c ns := by
  obtain ⟨Cc, fI, fd, ps, i, h1, r⟩ := e
  exact ⟨Cc, fI, fd, ps, i, Nat.le_trans h1 h, r⟩
theorem Tab.add {B : Bk} {x : Str} {ps : List Str} {pats : List (Nat × List Str)} {ms : MSp} (t : Tab B C P w base L fs gl) (c : Cal B P w base (L + 1) x ps pats ms) (hn : fs.length = C.fn.length) (h1 : C'.gl = C.gl) (h2 : C'.bt = C.bt) (h3 : C'.im = C.im) (h4 : C'.fn = C.fn ++ [(x, ps, pats)]) (h5 : C'.ec = C.ec) (h6 : C'.exm = C.exm) (h7 : C'.kd = C.kd) (h8 : C'.cl = C.cl := by rfl) :
    Tab B C' P w base (L + 1) (fs ++ [ms]) gl where
  cl := by rw [h8]; exact t.cl
  ec := by rw [h5]; exact fun c ns h => (t.ec c ns h).mono (Nat.le_succ L)
  exm := by rw [h6]; exact t.exm
  kd_ := by rw [h7]; exact t.kd_
  gl := by rw [h1]; exact t.gl
  bt := fun y hy => t.bt y (by unfold hasBt at hy ⊢; rw [← h2]; exact hy)
  im := by rw [h3]; exact t.im
  fn := fun k y ps' pats' h => by
    rw [h4] at h
    by_cases hk : k < C.fn.length
    · rw [List.getElem?_append_left hk] at h
      obtain ⟨m, q1, q2⟩ := t.fn k y ps' pats' h
      exact ⟨m, by rw [List.getElem?_append_left (by omega)]; exact q1, q2.mono (Nat.le_succ L)⟩
    · rw [List.getElem?_append_right (by omega)] at h
      obtain ⟨q, q'⟩ : k - C.fn.length = 0 ∧ (x, ps, pats) = (y, ps', pats') := by
        cases e : k - C.fn.length with
        | zero => rw [e] at h; exact ⟨rfl, by simpa using h⟩
        | succ _ => rw [e] at h; simp at h
      cases q'
      exact ⟨ms, by rw [List.getElem?_append_right (by omega), hn, q]; rfl, c⟩
/-- the names of the module, ahead of its functions -/
theorem tab_nil (X : K.In h) (G : h.Ns mainGlobals mg) (hf : C.fn = []) (h1 : ∀ (k : Nat) (x : Str), C.gl[k]? = some x → ∃ d, gl[k]? = some d ∧ GlAt K x d) (h2 : ∀ x ∈ C.bt, PySem.W.nsIn K mainGlobals x = some none)
    (h3 : ∀ p ∈ C.im, PySem.W.nsIn K mainGlobals p.1 = some (some (.builtin p.2))) (h4 : ∀ p ∈ C.ec, ECls P w K mg base L p.1 p.2) (h5 : ∀ p ∈ C.exm, XMt K mg p.1 p.2.1 p.2.2) (h6 : ∀ p ∈ C.kd, KdAt w K mg p.1 p.2) (h7 : ∀ p ∈ C.cl, ClAt ⟨K, mg⟩ p.1 p.2) : Tab ⟨K, mg⟩ C P w base L [] gl where
  cl := fun c fs h => h7 (c, fs) (by simpa using h)
  ec := fun c ns h => h4 (c, ns) (by simpa using h)
  exm := fun c x b h => h5 (c, x, b) (by simpa using h)
  kd_ := fun x zs h => by
    have hm : (x, zs) ∈ C.kd := by
      revert h
      generalize C.kd = l
      induction l with
      | nil => intro h; cases h
      | cons p r ih =>
        intro h
        obtain ⟨y, z⟩ := p
        rw [List.lookup_cons] at h
        split at h
        · rename_i e
          cases h
          obtain rfl := beq_iff_eq.mp e
          exact List.mem_cons_self
        · exact List.mem_cons_of_mem _ (ih h)
    exact h6 _ hm
  gl := fun k x hk => by
    obtain ⟨d, q1, u, v, q2, q3, q4⟩ := h1 k x hk
    exact ⟨d, u, v, q1, PySem.W.mg_of X G q2, q3, q4 mg⟩
  bt := fun x hx => by
    unfold hasBt at hx
    rw [List.any_eq_true] at hx
    obtain ⟨y, hy, e⟩ := hx
    rw [beq_iff_eq] at e
    subst e
    exact PySem.W.mg_none_of X G (h2 y hy)
  im := fun x id h => by
    have hm : (x, id) ∈ C.im := by
      revert h
      generalize C.im = l
      intro h
      induction l with
      | nil => simp at h
      | cons p r ih =>
        obtain ⟨a, b⟩ := p
        rw [List.lookup_cons] at h
        split at h
        · rename_i e
          rw [beq_iff_eq] at e
          cases h; subst e
          exact List.Mem.head _
        · exact List.Mem.tail _ (ih h)
    exact PySem.W.mg_of X G (h3 _ hm)
  fn := fun k x ps pats h => by rw [hf] at h; simp at h
theorem ini_no {x : Str} (h : (spl x).isNone = true) : isIni x = false := by
  unfold isIni
  rw [Option.isNone_iff_eq_none.mp h]
/-- a function, by its body -/
theorem cal_of {x : Str} {st : Stmt} {f : Addr} {ps : List Str} {pats : List (Nat × List Str)} {ms : MSp} {ir : Ss} (X : K.In h) (G : h.Ns mainGlobals mg) (F : FnAt K x st f) (S : FnScope C.N ps (defScope st)) (hk : kSs C (defScope st) ir (defBody st) = true)
    (hb : ∀ kV dc pm an cd ct, Bnd (PySem.W.fnOf x x (defArgs st) (defBody st) (defScope st) .none kV dc pm an cd ct) ps pats) (t : Tab ⟨K, mg⟩ C P w base L fs gl)
    (hms : Kp fs gl ir C.N.length ps.length ms) (hsp : (spl x).isNone = true := by decide +kernel) :
    Cal ⟨K, mg⟩ P w base (L + 1) x ps pats ms := by
  obtain ⟨oc, od, kV, dc, pm, an, cd, ct, sl, lk, hcd⟩ := F.obj
  exact ⟨⟨f, _, L + 1, by rw [ini_no hsp]; exact Nat.le_refl _, At.mk (Option.isNone_iff_eq_none.mp hsp) (PySem.W.mg_of X G F.at_) F.kp, hb kV dc pm an cd ct, fx_of (B := ⟨K, mg⟩) (C := C) lk hcd S hk t hms⟩⟩
/-- a method of the module's class c stands at f -/
structure MtAt (K : PySem.W.Frag) (c m x : Str) (st : Stmt) (Cc f : Addr) : Prop where
  at_ : PySem.W.nsIn K mainGlobals c = some (some (.ref Cc))
  cls : Cls K Cc
  me : if m = "__init__" then Mk K Cc f else Meth K Cc m f
  obj : ∃ oc od kV dc pm an cd ct sl, K.lookup f = some ⟨oc, od, .func (PySem.W.fnOf m x (defArgs st) (defBody st) (defScope st) .none kV dc pm an cd ct), sl⟩ ∧ PySem.W.codeIn K cd x = true
theorem mt_at1 {c m x : Str} {st : Stmt} {Cc f : Addr} {oc kV dc pm cd ct : Value} {od an : Option Addr} {sl : Array (Option Value)} {ar : Arguments} {bo : List Stmt} {sc : Scope} (h1 : PySem.W.nsIn K mainGlobals c = some (some (.ref Cc))) (h2 : PySem.W.plainGet K Cc Str.empty = true) (h3 : PySem.W.hasDictIn K Cc = true) (h4 : PySem.W.plainOver K Cc = true)
    (h5 : PySem.W.findIn K (.ref Cc) "__setattr__" = some (some (.builtin "object.__setattr__"))) (h6 : PySem.W.findIn K (.ref Cc) m = some (some (.ref f))) (h7 : PySem.W.isFn K (.ref f) = true) (h8 : PySem.W.keepIn K (.ref f) = true)
    (h9 : K.lookup f = some ⟨oc, od, .func (PySem.W.fnOf m x ar bo sc .none kV dc pm an cd ct), sl⟩) (h10 : PySem.W.codeIn K cd x = true) (e1 : ar = defArgs st) (e2 : bo = defBody st) (e3 : sc = defScope st) (hm : m ≠ "__init__" := by decide) : MtAt K c m x st Cc f := by
  subst e1 e2 e3
  exact ⟨h1, ⟨h2, h3, h4, h5⟩, by rw [if_neg hm]; exact ⟨h6, h7, h8⟩, ⟨_, _, _, _, _, _, _, _, _, h9, h10⟩⟩
theorem mt_at0 {c x : Str} {st : Stmt} {Cc f : Addr} {oc kV dc pm cd ct : Value} {od an : Option Addr} {sl : Array (Option Value)} {ar : Arguments} {bo : List Stmt} {sc : Scope} (h1 : PySem.W.nsIn K mainGlobals c = some (some (.ref Cc))) (h2 : PySem.W.plainGet K Cc Str.empty = true) (h3 : PySem.W.hasDictIn K Cc = true) (h4 : PySem.W.plainOver K Cc = true)
    (h5 : PySem.W.findIn K (.ref Cc) "__setattr__" = some (some (.builtin "object.__setattr__"))) (h6 : PySem.W.findIn K (.ref Cc) "__init__" = some (some (.ref f))) (h7 : PySem.W.isFn K (.ref f) = true) (h8 : PySem.W.keepIn K (.ref Cc) = true) (h0 : PySem.W.makesIn K Cc = true)
    (h9 : K.lookup f = some ⟨oc, od, .func (PySem.W.fnOf "__init__" x ar bo sc .none kV dc pm an cd ct), sl⟩) (h10 : PySem.W.codeIn K cd x = true) (e1 : ar = defArgs st) (e2 : bo = defBody st) (e3 : sc = defScope st) : MtAt K c "__init__" x st Cc f := by
  subst e1 e2 e3
  exact ⟨h1, ⟨h2, h3, h4, h5⟩, by rw [if_pos rfl]; exact ⟨h0, h6, h7, h8⟩, ⟨_, _, _, _, _, _, _, _, _, h9, h10⟩⟩
theorem cal_ofM {x c m : Str} {st : Stmt} {Cc f : Addr} {ps : List Str} {pats : List (Nat × List Str)} {ms : MSp} {ir : Ss} (X : K.In h) (G : h.Ns mainGlobals mg) (F : MtAt K c m x st Cc f) (S : FnScope C.N ps (defScope st)) (hk : kSs C (defScope st) ir (defBody st) = true)
    (hb : ∀ kV dc pm an cd ct, Bnd (PySem.W.fnOf m x (defArgs st) (defBody st) (defScope st) .none kV dc pm an cd ct) ps pats) (t : Tab ⟨K, mg⟩ C P w base L fs gl)
    (hms : Kp fs gl ir C.N.length ps.length ms) (hsp : (spl x == some (c, m)) = true := by decide +kernel) :
    Cal ⟨K, mg⟩ P w base (L + 1 + 1) x ps pats ms := by
  obtain ⟨oc, od, kV, dc, pm, an, cd, ct, sl, lk, hcd⟩ := F.obj
  refine ⟨⟨f, _, L + 1, by split <;> omega, ?_, hb kV dc pm an cd ct, fx_of (B := ⟨K, mg⟩) (C := C) lk hcd S hk t hms⟩⟩
  unfold At
  rw [beq_iff_eq.mp hsp]
  exact ⟨Cc, PySem.W.mg_of X G F.at_, F.cls, F.me⟩
/-- a class of the module, its instances' fields -/
structure ClK (K : PySem.W.Frag) (c : Str) (fs : List Str) (Cc : Addr) : Prop where
  at_ : PySem.W.nsIn K mainGlobals c = some (some (.ref Cc))
  cls : Cls K Cc
  no : ∀ f ∈ fs, NoAttr K Cc f
theorem cl_of {c : Str} {fs : List Str} {Cc : Addr} (X : K.In h) (G : h.Ns mainGlobals mg) (z : ClK K c fs Cc) : ClAt ⟨K, mg⟩ c fs := ⟨Cc, PySem.W.mg_of X G z.at_, z.cls, z.no⟩
theorem clk_at {c : Str} {fs : List Str} {Cc : Addr} (h1 : PySem.W.nsIn K mainGlobals c = some (some (.ref Cc))) (h2 : PySem.W.plainGet K Cc Str.empty = true) (h3 : PySem.W.hasDictIn K Cc = true) (h4 : PySem.W.plainOver K Cc = true)
    (h5 : PySem.W.findIn K (.ref Cc) "__setattr__" = some (some (.builtin "object.__setattr__"))) (h6 : ∀ f ∈ fs, PySem.W.findIn K (.ref Cc) f = some none) : ClK K c fs Cc := ⟨h1, ⟨h2, h3, h4, h5⟩, h6⟩
theorem Tab.reN {B : Bk} (t : Tab B C P w base L fs gl) (h1 : C'.gl = C.gl) (h2 : C'.bt = C.bt) (h3 : C'.im = C.im) (h4 : C'.fn = C.fn) (h5 : C'.ec = C.ec) (h6 : C'.exm = C.exm) (h7 : C'.kd = C.kd) (h8 : C'.cl = C.cl := by rfl) : Tab B C' P w base L fs gl where
  cl := by rw [h8]; exact t.cl
  ec := by rw [h5]; exact t.ec
  exm := by rw [h6]; exact t.exm
  kd_ := by rw [h7]; exact t.kd_
  gl := by rw [h1]; exact t.gl
  bt := fun y hy => t.bt y (by unfold hasBt at hy ⊢; rw [← h2]; exact hy)
  im := by rw [h3]; exact t.im
  fn := by rw [h4]; exact t.fn
theorem Tab.up {B : Bk} {L' : Nat} (t : Tab B C P w base L fs gl) (h : L ≤ L') : Tab B C P w base L' fs gl where
  gl := t.gl
  bt := t.bt
  im := t.im
  fn := fun k y ps pats q => by
    obtain ⟨m, q1, q2⟩ := t.fn k y ps pats q
    exact ⟨m, q1, q2.mono h⟩
  ec := fun c ns q => (t.ec c ns q).mono h
  exm := t.exm
  kd_ := t.kd_
  cl := t.cl
/-- a promise of nothing -/
theorem cal_bot {x : Str} {st : Stmt} {f : Addr} {ps : List Str} {pats : List (Nat × List Str)} {ms : MSp} (X : K.In h) (G : h.Ns mainGlobals mg) (F : FnAt K x st f)
    (hb : ∀ kV dc pm an cd ct, Bnd (PySem.W.fnOf x x (defArgs st) (defBody st) (defScope st) .none kV dc pm an cd ct) ps pats) (no : ∀ ds S F Y, ¬ ms ds S F Y) (hsp : (spl x).isNone = true := by decide +kernel) : Cal ⟨K, mg⟩ P w base L x ps pats ms := by
  obtain ⟨oc, od, kV, dc, pm, an, cd, ct, sl, lk, hcd⟩ := F.obj
  exact ⟨⟨f, _, 0, by rw [ini_no hsp]; exact Nat.zero_le _, At.mk (Option.isNone_iff_eq_none.mp hsp) (PySem.W.mg_of X G F.at_) F.kp, hb kV dc pm an cd ct, ⟨fun A outer s H args us vs Q E hr hg e0 hbi hl rv ⟨r, S, ds, F, Y, _, _, hm, _⟩ => absurd hm (no ds S F Y)⟩⟩⟩
/-- a function that calls itself: its promise, by a measure -/
theorem cal_rec {x : Str} {st : Stmt} {f : Addr} {ps : List Str} {pats : List (Nat × List Str)} {ms : Nat → MSp} {ir : Ss} (X : K.In h) (G : h.Ns mainGlobals mg) (F : FnAt K x st f) (S : FnScope C'.N ps (defScope st)) (hk : kSs C' (defScope st) ir (defBody st) = true)
    (hb : ∀ kV dc pm an cd ct, Bnd (PySem.W.fnOf x x (defArgs st) (defBody st) (defScope st) .none kV dc pm an cd ct) ps pats) (t : Tab ⟨K, mg⟩ C P w base L fs gl)
    (hn : fs.length = C.fn.length) (h1 : C'.gl = C.gl) (h2 : C'.bt = C.bt) (h3 : C'.im = C.im) (h4 : C'.fn = C.fn ++ [(x, ps, pats)]) (h5 : C'.ec = C.ec) (h6 : C'.exm = C.exm) (h7 : C'.kd = C.kd) (no : ∀ ds S F Y, ¬ ms 0 ds S F Y)
    (hms : ∀ d, Kp (fs ++ [ms d]) gl ir C'.N.length ps.length (ms (d + 1))) (h8 : C'.cl = C.cl := by rfl) (hsp : (spl x).isNone = true := by decide +kernel) : ∀ d, Cal ⟨K, mg⟩ P w base (L + d + 1) x ps pats (ms d)
  | 0 => cal_bot X G F hb no hsp
  | d + 1 => cal_of X G F S hk hb ((t.up (Nat.le_add_right L d)).add (cal_rec X G F S hk hb t hn h1 h2 h3 h4 h5 h6 h7 no hms h8 hsp d) hn h1 h2 h3 h4 h5 h6 h7 h8) (hms d) hsp
/-- the law's own def -/
theorem cal_law {x : Str} {st : Stmt} {f fa : Addr} {p : Str} {pats : List (Nat × List Str)} {ms : MSp} (X : K.In h) (G : h.Ns mainGlobals mg) (hfa : mg x = some (.ref fa)) (F : FnAt K x st f) (hb : ∀ kV dc pm an cd ct, ∀ (s : Shared) (u : Value), BindsTo s (PySem.W.fnOf x x (defArgs st) (defBody st) (defScope st) .none kV dc pm an cd ct) ⟨[u], []⟩ [(p, u)])
    (hms : ∀ base : Heap, K.In base → base.Ns mainGlobals mg → ∃ ir C fs gl L', L' + 1 ≤ L ∧ FnScope C.N [p] (defScope st) ∧ kSs C (defScope st) ir (defBody st) = true ∧ Tab ⟨K, mg⟩ C P w base L' fs gl ∧
      Kp fs gl ir C.N.length 1 ms) :
    ∃ fd : FuncData, (∀ (s : Shared) (u : Value), BindsTo s fd ⟨[u], []⟩ [(p, u)]) ∧ ∀ base : Heap, K.In base → base.Ns mainGlobals mg → Fx P w K mg base L fa fd [p] (LSp ⟨K, mg⟩ ms) := by
  have e := hfa.symm.trans (PySem.W.mg_of X G F.at_)
  cases e
  obtain ⟨oc, od, kV, dc, pm, an, cd, ct, sl, lk, hcd⟩ := F.obj
  refine ⟨_, hb kV dc pm an cd ct, fun base X' G' => ?_⟩
  obtain ⟨ir, C, fs, gl, L', hL, S, hk, t, hm⟩ := hms base X' G'
  exact (fx_of (B := ⟨K, mg⟩) (C := C) lk hcd S hk t hm).mono hL
end
end M

set_option Elab.async false
set_option maxRecDepth 100000
set_option maxHeartbeats 8000000
/-! MB: a call that borrows: the callee reads the caller's cells as values, and hands back data without cells. -/
namespace M
open PySem L2
open PyProof.Rows hiding St

mutual
/-- numbers, texts, tuples of them -/
def treeD : D → Prop
  | .non => True
  | .bl _ => True
  | .int _ => True
  | .str _ => True
  | .tup ds => treeDs ds
  | _ => False
def treeDs : List D → Prop
  | [] => True
  | d :: r => treeD d ∧ treeDs r
end
theorem treeDs_all : ∀ {ds : List D}, (∀ d ∈ ds, treeD d) → treeDs ds
  | [], _ => trivial
  | d :: r, h => ⟨h d (by simp), treeDs_all fun x hx => h x (by simp [hx])⟩
section
variable {B : Bk} {r r' : Rg} {H H' : Hp} {S S' : Store}
theorem RC.notup {c : Cell} {a : Addr} (h : RC B r H c a) : ∀ vs, ¬ Rd H a (.tup vs) := by
  intro vs q
  cases h with
  | lst h _ => rcases q with q | ⟨o, q⟩ <;> (rw [q] at h; cases h)
  | ins _ _ h _ => rcases q with q | ⟨o, q⟩ <;> (rw [q] at h; cases h)
  | dct _ h _ => rcases q with q | ⟨o, q⟩ <;> (rw [q] at h; cases h)
  | dctL _ h _ => rcases q with q | ⟨o, q⟩ <;> (rw [q] at h; cases h)
mutual
theorem RV.tree (hz : r'.z = r.z) (hc : ∀ a ∈ r.c, ∀ vs, ¬ Rd H a (.tup vs)) : ∀ {d : D} {v : V}, treeD d → RV B r' H d v → RV B r H d v
  | _, _, _, .non => .non
  | _, _, _, .bl b => .bl b
  | _, _, _, .int i => .int i
  | _, _, _, .str x => .str x
  | _, _, t, .tup n h hs => .tup (Rg.not.mpr ⟨fun m => hc _ m _ h, by rw [← hz]; exact (Rg.not.mp n).2⟩) h (RVs.tree hz hc t hs)
  | _, _, t, .tupK h hs => .tupK h (RVs.tree hz hc t hs)
  | _, _, t, .ty _ => False.elim (t : False)
  | _, _, t, .ref _ => False.elim (t : False)
  | _, _, t, .lst _ _ _ => False.elim (t : False)
  | _, _, t, .rol _ _ _ => False.elim (t : False)
  | _, _, t, .rolK _ _ => False.elim (t : False)
  | _, _, t, .ins _ _ _ _ _ => False.elim (t : False)
  | _, _, t, .exc _ _ _ _ _ => False.elim (t : False)
  | _, _, t, .dct _ _ _ _ => False.elim (t : False)
theorem RVs.tree (hz : r'.z = r.z) (hc : ∀ a ∈ r.c, ∀ vs, ¬ Rd H a (.tup vs)) : ∀ {ds : List D} {vs : List V}, treeDs ds → RVs B r' H ds vs → RVs B r H ds vs
  | _, _, _, .nil => .nil
  | _, _, t, .cons h hs => .cons (RV.tree hz hc t.1 h) (RVs.tree hz hc t.2 hs)
end
/-- the promise, as a borrowing caller has it -/
def bor (ms : MSp) : MSp := fun ds S F _ => ∃ es, Fzs 0 S ds es ∧ ms es [] (fun d _ => treeD d ∧ F d S) (fun _ _ => False)
theorem LSp.bor {ms : MSp} {vs : List V} {Q : VK} {E : XK} (h : LSp B (bor ms) vs H Q E) : LSp B ms vs H Q E := by
  obtain ⟨r, S, ds, F, Y, hS, hds, ⟨es, hz, hm⟩, hF, hX⟩ := h
  refine ⟨r.cut 0, [], es, _, _, ⟨by simp [Rg.cut], List.nodup_nil, hS.zt, fun a ha => by simp [Rg.cut] at ha, fun n c a hc => by simp at hc⟩, RVs.fz hS hz hds, hm, ?_, ?_⟩
  · intro d S' r' H' v ⟨t, hd⟩ x s hv
    have k : ∀ a o, H a = some o → H' a = some o := fun a o h => x.keep a o h (by simp [Rg.cut])
    have ex : Ex r H r H' := ⟨⟨[], by simp, fun a h => by cases h⟩, rfl, fun a o h _ => k a o h, x.there⟩
    have s2 : RS B r S H' := ⟨hS.len, hS.nd, fun a ha => let ⟨o, h⟩ := hS.zt a ha; ⟨o, k a o h⟩, hS.zc, fun n c a hc ha => by
      have q := hS.at_ n c a hc ha
      refine q.car ex.car ?_
      cases q with
      | lst h _ => rw [h]; exact k _ _ h
      | ins _ _ h _ => rw [h]; exact k _ _ h
      | dct _ h _ => rw [h]; exact k _ _ h
      | dctL _ h _ => rw [h]; exact k _ _ h⟩
    refine hF d S r H' v hd ex s2 (hv.tree (show r'.z = r.z from x.zz) (fun a ha vs => ?_) t)
    obtain ⟨n, hn⟩ := List.mem_iff_getElem?.mp ha
    have hl : n < S.length := by rw [← hS.len]; exact (List.getElem?_eq_some_iff.mp hn).1
    exact (s2.at_ n _ a (List.getElem?_eq_getElem hl) hn).notup vs
  · intro d S' r' H' c dx h
    exact h.elim
theorem Cal.bor {P : Program} {w : World} {base : Heap} {L : Nat} {x : Str} {ps : List Str} {pats : List (Nat × List Str)} {ms : MSp} (c : Cal B P w base L x ps pats ms) : Cal B P w base L x ps pats (bor ms) := by
  obtain ⟨⟨f, fd, L', h1, h2, h3, h4⟩⟩ := c
  exact ⟨⟨f, fd, L', h1, h2, h3, ⟨fun A outer s H args us vs Q E hr hg e0 hb hl rv q => h4.run A outer s H args us vs Q E hr hg e0 hb hl rv q.bor⟩⟩⟩
end
end M

set_option Elab.async false
set_option maxRecDepth 100000
set_option maxHeartbeats 8000000
/-! MI: an own exception's __init__: super().__init__("text"), then one field. -/
namespace M
open PySem L2
open PyProof.Rows hiding St
open PySem.W (ksFn ksEnv kxs_mw)

section
variable {P : Program} {w : World} {A : Around} {E : Value → Shared → Prop} {h : Heap} {g : Array GenState} {d : Drawn} {t : Nat} {os : OsState}
/-- the bound ValueError.__init__ called -/
theorem mi_call {nm q : Str} {C N : Addr} {bs bm : List Value} {hdct : Bool} {sn : List Str} {sub : List Value} {ab : Bool} {col : Option Bool} {dd : Option Addr} {k0 k1 k2 k3 k5 : Option Value} {u e t0 : Addr} {rest : List Value} {Q : Value → Shared → Prop}
    (hC : h.get? C = some (excClassObj nm q C N bs bm hdct sn sub ab col dd k0 k1 k2 k3 k5 "ValueError.__new__")) (he : h.get? e = some (HandSPX.excO C t0)) (hu : h.get? u = some (kxs_mw "ValueError.__init__" e)) (hrest : rest.length ≤ sizeLine)
    (hq : ∀ h' t1, (∀ b o, b ≠ e → h.get? b = some o → h'.get? b = some o) → h'.get? e = some (HandSPX.excO C t1) → Q .none ⟨h', g, d, t, os⟩) :
    wpAny (model P w) A (call (.ref u) rest) Q E ⟨h, g, d, t, os⟩ := by
  refine wpAny_call (codeAny_of_tree ?_)
  show wpAny _ A.in1 (callAny (.ref u) ⟨rest, []⟩) _ _ _
  simp only [callAny]
  refine wpAny_bind (wpAny_load hu ?_)
  simp only [kxs_mw, show (Value.type "method-wrapper" == Value.type "method" || Value.type "method-wrapper" == Value.type "builtin_function_or_method" || Value.type "method-wrapper" == Value.type "method-wrapper") = true by decide, if_true]
  refine W.KFB.if_so (by decide) ?_
  refine wpAny_bind (W.check_bound_init F.excBase_ValueError.toExcCallFacts hC he rfl ?_)
  refine wpAny_bind (wpAny_pure (wpAny_pure ?_))
  refine ⟨Code.quiet_builtin _ (by decide +kernel), codeAny_builtin F.excBase_ValueError.initEntry ?_⟩
  rw [Around.under_plainId F.excBase_ValueError.init.plain _]
  wp_walk
  refine hq _ h.objs.size (fun b o hb ho => ?_) ?_
  · rw [Heap.get?_update_other _ _ (Ne.symm hb)]
    exact Heap.get?_push_of_some _ ho
  · rw [Heap.get?_update_self _ (Heap.get?_push_of_some _ he) rfl]
    rfl
end
theorem ns_keep {h h' : Heap} {L : Addr} {m : Str → Option Value} (n : h.Ns L m) (k : ∀ o, h.get? L = some o → h'.get? L = some o) : h'.Ns L m := by
  obtain ⟨o, es, ep, e, r⟩ := n
  exact ⟨o, es, ep, k _ e, r⟩
/-- super().__init__("text"), as the model reads it at these places -/
def SupEv (msg : Str) (j : Nat) (p0 p1 p2 p3 p4 : Pos) : Prop := ∀ env : Env, ∃ pl : Sem Bool, eval (.Call (.Attribute (.Call (.Name "super" p0) [] [] p1) "__init__" p2) [.Constant (.str msg) j p3] [] p4) env = (do
  let ov ← attributeBase (.Call (.Name "super" p0) [] [] p1) "__init__" env (eval (.Call (.Name "super" p0) [] [] p1) env)
  standAt p2.atName
  let (f, first) ← holding [ov] (getMethod ov "__init__" pl)
  callWith p4 f first (backTo p4 (starEach [.Constant (.str msg) j p3] env)) [])
/-- how an own exception class with one field stands in the written part -/
structure IniAt (K : PySem.W.Frag) (P : Program) (c f : Str) (C fI : Addr) : Prop where
  at_ : PySem.W.nsIn K mainGlobals c = some (some (.ref C))
  cls : OexC K C
  ini : PySem.W.findIn K (.ref C) "__init__" = some (some (.ref fI))
  tyI : PySem.W.typeIn K (.ref fI) = some (.type "function")
  no : PySem.W.findIn K (.ref C) f = some none
  sup : PySem.W.ks_superIn K C C "__init__" = some (some (.builtin "ValueError.__init__"))
  sub : PySem.W.subIn K (.ref C) (.type "ValueError") = some true
  opq : PySem.W.nsIn K cStatics "thirdparty.any" = some none
  mro : PySem.W.mroIn K C (.ref C) = some true
  nos : PySem.W.nsIn K mainGlobals "super" = some none
  main : (P.main.scope.names.lookup ("super" : Str)).isSome = false
  fn : ∃ oc od nm qual params body scope dV kV doc pm an cda ct cc osl, K.lookup fI = some ⟨oc, od, .func (ksFn nm qual params body scope dV kV doc pm an (.ref cda) ct cc), osl⟩ ∧ PySem.W.codeIn K (.ref cda) qual = true ∧
    (∃ cl cld csl, K.lookup cc = some ⟨cl, cld, .cell (some (.ref C)), csl⟩) ∧
    (∃ ccl cdd vs ccs file tf, K.lookup cda = some ⟨ccl, cdd, .fields vs, ccs⟩ ∧ vs[2]? = some (.str file tf) ∧ ((P.main.file : Str) == file) = true) ∧
    (∃ msg j p0 p1 p2 p3 p4 p5 p6 p7 p8 p9, body = [.Expr (.Call (.Attribute (.Call (.Name "super" p0) [] [] p1) "__init__" p2) [.Constant (.str msg) j p3] [] p4) p5, .Assign [.Attribute (.Name "self" p6) f p7] (.Name f p8) p9] ∧ SupEv msg j p0 p1 p2 p3 p4) ∧
    (∃ ar : Arg, (params.posonlyargs ++ params.args).head? = some ar ∧ ar.arg = "self") ∧
    scope.names.lookup ("super" : Str) = some .globalImplicit ∧ scope.names.lookup ("__class__" : Str) = some .free ∧ scope.names.lookup ("self" : Str) = some .local ∧ scope.names.lookup f = some .local ∧
    scope.kind = .function ∧ scope.isCoroutine = false ∧ scope.isGenerator = false ∧ (∀ x ∈ scope.names, x.2 ≠ .cell) ∧ (f == ("__debug__" : Str)) = false ∧ f ≠ "self" ∧
    Binds K (ksFn nm qual params body scope dV kV doc pm an (.ref cda) ct cc) ["self", f] []
theorem boot_super : bootBuiltins "super" = some (.type "super") := by decide +kernel
theorem ini_fn {K : PySem.W.Frag} {P : Program} {w : World} {mg : Str → Option Value} {base : Heap} {c f : Str} {C fI : Addr} (Z : IniAt K P c f C fI) :
    ∃ fd, FnOk P w K mg base (L2.CX P w) 1 fI fd ["self", f] (spIni K C [f]) ∧ Binds K fd ["self", f] [] := by
  obtain ⟨hat, T, _, _, hno, hsup, hsubV, hopq, hmro, hnos, hmain, oc, od, nm, qual, params, body, scope, dV, kV, doc, pm, an, cda, ct, cc, osl, lk, hcd, ⟨cl, cld, csl, hcell⟩, ⟨ccl, cdd, vs2, ccs, file, tf, hcode, hvs2, hfile⟩, ⟨msg, j, p0, p1, p2, p3, p4, p5, p6, p7, p8, p9, rfl, hev⟩, ⟨ar, hp, har⟩, k1, k2, k3, k4, k5, k6, k7, k8, k9, k10, hbn⟩ := Z
  refine ⟨_, ⟨fun vs H Q E h => ?_, fun A outer s H args us vs Q E hr e0 hb rv hsp => ?_⟩, hbn⟩
  · obtain ⟨a, us, rfl, hl, _⟩ := h
    simp [hl]
  obtain ⟨a, us1, rfl, hl, _, ea, hq⟩ := hsp
  match us1, hl with
  | [y], _ =>
  obtain ⟨u0, uy, rfl, ru, ry⟩ := vals2 rv
  cases (show u0 = Value.ref a from ru)
  obtain ⟨nm0, q0, N0, bs, bm, sn, sub, ab, col, dd, c0, c1, c2, c3, c5, hC, hbm⟩ := T.cls
  have hcl : PySem.W.clsIn K C = some { name := nm0, bases := bs, mro := .ref C :: bm, ns := N0, qualname := q0, hasDict := true, slotNames := sn, subclasses := sub, abstract := ab, collection := col, hasDel := false } := by unfold PySem.W.clsIn; rw [hC] <;> rfl
  have KX : K.In s.heap := e0.mod.kin.keeps fun b o e => (e0.bs b o e).1
  have lim : s.heap.NoLimit := e0.mod.nolimit.keeps fun b o e => (e0.bs b o e).1
  obtain ⟨mb, hnb, hboot⟩ := e0.mod.blt
  obtain ⟨t1, ho⟩ := exo_at e0.hok ea
  have hLn : ∀ {b : Addr} {o : Obj}, s.heap.get? b = some o → b ≠ s.heap.objs.size := fun {b o} q => Nat.ne_of_lt (Heap.lt_size q)
  have hgs : (fun x => ([("self" : Str), f].zip [Value.ref a, uy]).reverse.lookup x) "self" = some (.ref a) := by
    show List.lookup ("self" : Str) [(f, uy), (("self" : Str), Value.ref a)] = _
    rw [List.lookup_cons, show (("self" : Str) == f) = false from beq_eq_false_iff_ne.mpr (Ne.symm k10)]
    simp [List.lookup_cons]
  have hgf : (fun x => ([("self" : Str), f].zip [Value.ref a, uy]).reverse.lookup x) f = some uy := by
    show List.lookup f [(f, uy), (("self" : Str), Value.ref a)] = _
    simp [List.lookup_cons]
  refine ks_codeAny_call_defAt (binds := [("self" : Str), f].zip [Value.ref a, uy]) hr.depth (KX _ _ lk) rfl lim (PySem.W.codeRec_of KX hcd) rfl hb k8 (fun x hx => ?_) (fun h0 hns kp0 => ?_) k6 k7 k5
  · rcases List.mem_cons.mp hx with rfl | hx
    · exact k3
    · rcases List.mem_cons.mp hx with rfl | hx
      · exact k4
      · cases hx
  obtain ⟨hp0, g, dr, tk, os⟩ := s
  simp only at kp0 hns ho KX lim hLn ⊢
  have K0 : K.In h0 := KX.keeps kp0
  have hbk : ∀ b o, base.get? b = some o → h0.get? b = some o := fun b o e => kp0 b o (e0.bs b o e).1
  refine ks_wpAt_execs_cons ?_
  obtain ⟨pl, hev⟩ := hev (callEnv (ksFn nm qual params _ scope dV kV doc pm an (.ref cda) ct cc) hp0.objs.size fI)
  refine ks_wpAt_Expr_any (ks_wpAt_MethodCall ?_ hev) (by unfold interactive; first | (simp [callEnv, newEnv, k5]; done) | (simp [Env.blockKind, callEnv, newEnv, k5]; done))
  refine ks_wpAt_super_base (env := callEnv (ksFn nm qual params _ scope dV kV doc pm an (.ref cda) ct cc) hp0.objs.size fI) k1 k2 (by decide) rfl (K0 _ _ lk) rfl hp rfl (K0 _ _ hcode) rfl hvs2 hfile hmain ?_
  refine PySem.W.ks_loadName_global k5 k1 (Calls.loadGlobal_builtin (ns_keep e0.mod.glob (hbk _)) (PySem.W.mg_none_of e0.mod.kin e0.mod.glob hnos) (ns_keep hnb (hbk _)) ((hboot _ (by decide +kernel)).trans boot_super) ⟨rfl, ?_⟩)
  refine wpAny_loadName_free k5 k2 rfl ⟨_, K0 _ _ hcell, rfl⟩ ?_
  rw [har]
  refine wpAny_loadName_local k5 k3 hns hgs ?_
  have hCC := K0 _ _ hC
  refine ks_wpAny_isType_cls hCC rfl ⟨rfl, ?_⟩
  refine ks_wpAny_call_super hCC rfl (kp0 _ _ ho) rfl (fun c e => by cases e) (PySem.W.looks_mroIn K0 hmro) (fun h1 e1 kp1 => ?_)
  have K1 : K.In h1 := K0.keeps kp1
  have o1 := kp1 _ _ (kp0 _ _ ho)
  have I1 : PySem.W.InstAt h1 a { cls := .ref C, dict := none, data := .fields #[.ref t1, .none, .none, .none, .bool false, .none] } C none := ⟨o1, rfl, rfl, trivial⟩
  have hs : ∃ l, ((({ name := nm0, bases := bs, mro := .ref C :: bm, ns := N0, qualname := q0, hasDict := true, slotNames := sn, subclasses := sub, abstract := ab, collection := col, hasDel := false } : ClassData).mro.dropWhile (· != .ref C)).drop 1) = l ∧ PySem.W.alongIn K "__init__" l = some (some (.builtin "ValueError.__init__")) := by
    unfold PySem.W.ks_superIn at hsup
    rw [hcl] at hsup
    exact ⟨_, rfl, hsup⟩
  obtain ⟨l, hl1, hl2⟩ := hs
  refine PySem.W.kxs_getMethod PySem.W.kxs_ValueError e1 (PySem.W.looks_opaque K1 hopq) (l₀ := .ref C :: bm) (fun A Q E s k q => wpAny_bind ((PySem.W.looks_clsIn K1 hcl) A _ E s k (wpAny_pure q))) hl1 K1 hl2 (I1.type.andThen (PySem.W.looks_subIn K1 hsubV)) (PySem.W.ks_ne K1 I1 hcl) (by decide) ?_
  have kp2 : ∀ b o, h1.get? b = some o → (h1.push (kxs_mw "ValueError.__init__" a)).get? b = some o := fun b o e => Heap.get?_push_of_some _ e
  have e2 : (h1.push (kxs_mw "ValueError.__init__" a)).get? h1.objs.size = some (kxs_mw "ValueError.__init__" a) := Heap.get?_push_at rfl rfl
  generalize (h1.push (kxs_mw "ValueError.__init__" a)) = h2 at kp2 e2 ⊢
  show wpAny _ _ (callWith p4 (.ref h1.objs.size) [] (backTo p4 (starEach [.Constant (.str msg) j p3] _)) []) _ _ _
  refine PySem.W.kxs_callWith (i := "ValueError.__init__") (x := a) rfl (Calls.evalArgs_plain (spliced_more (Calls.Constant_str (spliced_none ?_)) rfl)) 
  refine ⟨e2, ?_⟩
  have a1 : ∀ b o, hp0.get? b = some o → h2.get? b = some o := fun b o e => kp2 b o (kp1 b o (kp0 b o e))
  refine mi_call (rest := [Value.str msg _]) (kp2 _ _ (kp1 _ _ hCC)) (a1 _ _ ho) e2 (by show 1 ≤ sizeLine; rw [sizeLine_eq]; omega) (fun h3 t3 kp3 e3 => ?_)
  have hne : ∀ {b : Addr} {o : Obj}, hp0.get? b = some o → H b = none → b ≠ a := fun {b o} _ n z => by rw [z, ea] at n; cases n
  have a3 : ∀ b o, hp0.get? b = some o → b ≠ a → h3.get? b = some o := fun b o e n => kp3 b o n (a1 b o e)
  have K3 : K.In h3 := fun b o e => kp3 b o (fun z => by
    have q1 := KX b o e
    rw [z, ho] at q1
    cases q1
    have q2 := e0.mod.kin _ _ e
    rw [z] at q2
    have q3 := (e0.bs _ _ q2).2
    rw [ea] at q3; cases q3) (kp2 b o (kp1 b o (K0 b o e)))
  have hns3 : h3.Ns hp0.objs.size (fun x => ([("self" : Str), f].zip [Value.ref a, uy]).reverse.lookup x) := ns_keep hns fun o e => kp3 _ o (fun z => hLn ho z.symm) (kp2 _ o (kp1 _ o e))
  show _root_.PySem.wpAt _ _ _ (execs [_] _) _ _ _
  refine ks_wpAt_execs_cons ?_
  refine ks_wpAt_Assign_Attr (wpAt_of_wpAny (ldc k5 k4 hns3 hgf (ldc k5 k3 hns3 hgs ?_) k9)) (by rfl)
  refine PySem.W.set_plain K3 (ox := { cls := .ref C, dict := none, data := .fields #[.ref t3, .none, .none, .none, .bool false, .none] }) (od := none) ⟨e3, rfl, rfl, trivial⟩ T.sa ?_
  refine PySem.HandSPX.exc_osa K3 e3 hcl (show PySem.HandSPX.refsVE (.ref C :: bm) = true from hbm) rfl hno (fun h4 tk4 dx kp4 dn dne e4 hns4 => ?_)
  refine wpAt_of_wpAny (wpAny_execs_nil ?_)
  have dn : h3.objs.size ≤ dx := dn
  have hnd : hp0.get? dx = none := by
    cases q : hp0.get? dx with
    | none => rfl
    | some o =>
      exact absurd (Nat.lt_of_lt_of_le (Heap.lt_size (a3 _ _ q dne)) dn) (Nat.lt_irrefl _)
  have hHd : H dx = none := e0.hok.fresh (by
    have l1 : hp0.objs.size ≤ h3.objs.size := by
      obtain ⟨o, es, ep, e, _⟩ := hns3
      exact Nat.le_of_lt (Heap.lt_size e)
    exact Nat.le_trans l1 dn)
  have a4 : ∀ b o, hp0.get? b = some o → b ≠ a → h4.get? b = some o := fun b o e n => kp4 b o n (a3 b o e n)
  have nd : ∀ {b : Addr} {o : Obj}, hp0.get? b = some o → b ≠ dx := fun {b o} q z => by rw [z, hnd] at q; cases q
  refine ⟨.non, upd (upd H dx (exd dx [(f, y)])) a (exo a C (some dx)), rfl, e0.bare, ?_, ?_, rfl, hq dx hHd dne⟩
  · exact {
      keep := fun b o q n _ _ => a4 b o q (hne q n)
      slot := fun b o q n _ _ => ⟨o.slots, a4 b o q (hne q n)⟩
      free := fun b o q n _ => by rw [upd_ne (hne q n), upd_ne (nd q)]; exact n
      there := fun b o q _ => by
        by_cases hb : b = a
        · exact ⟨_, by rw [hb]; exact e4⟩
        · exact ⟨o, a4 b o q hb⟩
      tups := fun b xs q => by rw [upd_ne (at_ne ea q exo_tup), upd_ne (ne_of_none q hHd)]; exact q
      frzs := fun b o v q => by rw [upd_ne (at_ne ea q exo_frz), upd_ne (ne_of_none q hHd)]; exact q
      tbls := fun b ps q => ⟨#[], by rw [upd_ne (at_ne ea q exo_tbl), upd_ne (ne_of_none q hHd), q]; simp⟩ }
  · intro b o q
    by_cases hb : b = a
    · subst hb
      rw [upd_same] at q
      cases q
      exact exo_ok e4
    · rw [upd_ne hb] at q
      by_cases hd : b = dx
      · subst hd
        rw [upd_same] at q
        cases q
        exact exd_ok hns4 (relO_put (fs := []) ry fun g => True.intro)
      · rw [upd_ne hd] at q
        exact (e0.hok b o q).stay (fun c v hc z => a4 c v z (by
            rcases hc with hc | hc
            · rw [hc]
              exact hb
            · exact at_ne ea hc exo_own))
          (fun c hc => by rw [upd_ne (at_ne ea hc exo_own), upd_ne (ne_of_none hc hHd)]; exact hc) (fun c xs hc => by rw [upd_ne (at_ne ea hc exo_tup), upd_ne (ne_of_none hc hHd)]; exact hc)
/-- .. so it can be raised -/
theorem ecls_of {K : PySem.W.Frag} {P : Program} {w : World} {mg : Str → Option Value} {base h : Heap} {c f : Str} {C fI : Addr} {L : Nat} (X : K.In h) (G : h.Ns mainGlobals mg) (Z : IniAt K P c f C fI) (hL : 2 ≤ L) : ECls P w K mg base L c [f] := by
  obtain ⟨fd, F, hb⟩ := ini_fn (w := w) (mg := mg) (base := base) Z
  exact ⟨C, fI, fd, _, 1, hL, by show 1 ≤ 900; omega, PySem.W.mg_of X G Z.at_, Z.cls, Z.ini, Z.tyI, F, hb⟩
/-- the written part's words, one by one -/
theorem ini_at {K : PySem.W.Frag} {P : Program} {c f : Str} {C fI : Addr} {nm q : Str} {N : Addr} {bs bm : List Value} {sn : List Str} {sub : List Value} {ab : Bool} {col : Option Bool} {dd : Option Addr} {k0 k1 k2 k3 k5 : Option Value}
    {oc : Value} {od : Option Addr} {nm2 qual : Str} {params : Arguments} {body : List Stmt} {scope : Scope} {dV kV doc pm : Value} {an : Option Addr} {cda : Addr} {ct : Value} {cc : Addr} {osl : Array (Option Value)} {cl ccl : Value} {cld cdd : Option Addr} {csl ccs : Array (Option Value)} {vs : Array Value} {file : Str} {tf : Tok}
    {msg : Str} {j : Nat} {p0 p1 p2 p3 p4 p5 p6 p7 p8 p9 : Pos} {ar : Arg}
    (h1 : PySem.W.nsIn K mainGlobals c = some (some (.ref C))) (h2 : K.lookup C = some (excClassObj nm q C N bs bm true sn sub ab col dd k0 k1 k2 k3 k5 "ValueError.__new__")) (h3 : PySem.HandSPX.refsVE bm = true)
    (h4 : PySem.W.findIn K (.ref C) "__setattr__" = some (some (.builtin "object.__setattr__"))) (h5 : PySem.W.subIn K (.ref C) (.type "BaseException") = some true) (h6 : PySem.W.typeIn K (.ref C) = some (.type "type")) (h7 : PySem.W.keepIn K (.ref C) = true)
    (h8 : PySem.W.findIn K (.ref C) "__init__" = some (some (.ref fI))) (h9 : PySem.W.typeIn K (.ref fI) = some (.type "function")) (h10 : PySem.W.findIn K (.ref C) f = some none)
    (h11 : PySem.W.ks_superIn K C C "__init__" = some (some (.builtin "ValueError.__init__"))) (h12 : PySem.W.subIn K (.ref C) (.type "ValueError") = some true) (h13 : PySem.W.nsIn K cStatics "thirdparty.any" = some none)
    (h14 : PySem.W.mroIn K C (.ref C) = some true) (h15 : PySem.W.nsIn K mainGlobals "super" = some none) (h16 : (P.main.scope.names.lookup ("super" : Str)).isSome = false)
    (h17 : K.lookup fI = some ⟨oc, od, .func (ksFn nm2 qual params body scope dV kV doc pm an (.ref cda) ct cc), osl⟩) (h18 : PySem.W.codeIn K (.ref cda) qual = true) (h19 : K.lookup cc = some ⟨cl, cld, .cell (some (.ref C)), csl⟩)
    (h20 : K.lookup cda = some ⟨ccl, cdd, .fields vs, ccs⟩) (h21 : vs[2]? = some (.str file tf)) (h22 : ((P.main.file : Str) == file) = true)
    (h23 : body = [.Expr (.Call (.Attribute (.Call (.Name "super" p0) [] [] p1) "__init__" p2) [.Constant (.str msg) j p3] [] p4) p5, .Assign [.Attribute (.Name "self" p6) f p7] (.Name f p8) p9]) (h24 : SupEv msg j p0 p1 p2 p3 p4)
    (h25 : (params.posonlyargs ++ params.args).head? = some ar) (h26 : ar.arg = "self") (h27 : scope.names.lookup ("super" : Str) = some .globalImplicit ∧ scope.names.lookup ("__class__" : Str) = some .free ∧ scope.names.lookup ("self" : Str) = some .local ∧ scope.names.lookup f = some .local)
    (h28 : scope.kind = .function ∧ scope.isCoroutine = false ∧ scope.isGenerator = false) (h29 : ∀ x ∈ scope.names, x.2 ≠ .cell) (h30 : (f == ("__debug__" : Str)) = false ∧ f ≠ "self")
    (h31 : ∀ us : List Value, us.length = 2 → bindArgs (ksFn nm2 qual params body scope dV kV doc pm an (.ref cda) ct cc) ⟨us, []⟩ = pure ([("self" : Str), f].zip us)) : IniAt K P c f C fI where
  at_ := h1
  cls := ⟨⟨_, _, _, _, _, _, _, _, _, _, _, _, _, _, _, h2, h3⟩, h4, h5, h6, h7⟩
  ini := h8
  tyI := h9
  no := h10
  sup := h11
  sub := h12
  opq := h13
  mro := h14
  nos := h15
  main := h16
  fn := ⟨_, _, _, _, _, _, _, _, _, _, _, _, _, _, _, _, h17, h18, ⟨_, _, _, h19⟩, ⟨_, _, _, _, _, _, h20, h21, h22⟩, ⟨_, _, _, _, _, _, _, _, _, _, _, _, h23, h24⟩, ⟨_, h25, h26⟩, h27.1, h27.2.1, h27.2.2.1, h27.2.2.2, h28.1, h28.2.1, h28.2.2, h29, h30.1, h30.2,
    fun s us _ hl => .of_eq (by rw [List.append_nil] at hl ⊢; exact h31 us (by simpa using hl))⟩
/-- an own exception class that may be caught -/
structure XcAt (K : PySem.W.Frag) (c : Str) (Cc : Addr) : Prop where
  at_ : PySem.W.nsIn K mainGlobals c = some (some (.ref Cc))
  xc : XCl K Cc
theorem xc_at {K : PySem.W.Frag} {c : Str} {D : Addr} (h1 : PySem.W.nsIn K mainGlobals c = some (some (.ref D))) (h2 : PySem.W.findIn K (.ref D) "__getattribute__" = some (some (.builtin "BaseException.__getattribute__"))) (h3 : PySem.W.findIn K (.ref D) "__getattr__" = some none)
    (h4 : PySem.W.subIn K (.ref D) (.type "BaseException") = some true) (h5 : PySem.W.hasDictIn K D = true) (h6 : PySem.W.findIn K (.ref D) "__class__" = some (some (.builtin "object.__class__")))
    (h7 : PySem.W.specialIn K (.builtin "object.__class__") "__get__" = some (some (.builtin "getset_descriptor.__get__"))) (h8 : PySem.W.takesIn K (.builtin "object.__class__") = some true) (h9 : PySem.W.mroIn K D (.type "object") = some true)
    (h10 : PySem.W.findIn K (.ref D) "word" = some none) (h11 : PySem.W.findIn K (.ref D) "at" = some none) (h12 : PySem.W.findIn K (.ref D) "line" = some none) : XcAt K c D :=
  ⟨h1, ⟨h2, h3, h4, h5⟩, ⟨h2, h3, h4, h5, h6, h7, h8, h9⟩, fun f hf => by
    unfold isXf at hf
    simp only [Bool.or_eq_true, beq_iff_eq] at hf
    rcases hf with (rfl | rfl) | rfl
    · exact h10
    · exact h11
    · exact h12⟩
/-- .. at a class that a clause names -/
def XmAt (K : PySem.W.Frag) (c x : Str) (b : Bool) : Prop := ∃ Cc Cx, XcAt K c Cc ∧ PySem.W.nsIn K mainGlobals x = some (some (.ref Cx)) ∧ PySem.W.exmOne K (.ref Cc) (.ref Cx) = some b ∧ PySem.W.kitOne K (.ref Cc) (.ref Cx) = some b
theorem xm_at {K : PySem.W.Frag} {c x : Str} {b : Bool} {Cc Cx : Addr} (h0 : XcAt K c Cc) (h1 : PySem.W.nsIn K mainGlobals x = some (some (.ref Cx))) (h2 : PySem.W.subIn K (.ref Cx) (.type "BaseException") = some true) (h3 : PySem.W.hasDictIn K Cx = true) (h4 : PySem.W.typeIn K (.ref Cx) = some (.type "type"))
    (h5 : PySem.W.subIn K (.ref Cc) (.ref Cx) = some b) (h6 : PySem.W.kitOne K (.ref Cc) (.ref Cx) = some b) : XmAt K c x b := ⟨Cc, Cx, h0, h1, PySem.W.exm_ref h2 h3 h4 h5, h6⟩
theorem xmt_of {K : PySem.W.Frag} {mg : Str → Option Value} {h : Heap} {c x : Str} {b : Bool} (X : K.In h) (G : h.Ns mainGlobals mg) (z : XmAt K c x b) : XMt K mg c x b := by
  obtain ⟨Cc, Cx, h0, h1, h2, h3⟩ := z
  exact ⟨Cc, Cx, PySem.W.mg_of X G h0.at_, PySem.W.mg_of X G h1, h2, h3, h0.xc⟩
/-! dicts of the module, with text keys -/
def keysOf : List DictEntry → Option (List Str)
  | [] => some []
  | e :: r => match e.key with
    | .str x _ => (keysOf r).map (x :: ·)
    | _ => none
theorem keysOf_ref : ∀ {es : List DictEntry} {zs : List Str}, keysOf es = some zs → es.any (·.refKey) = false
  | [], _, _ => rfl
  | e :: r, zs, h => by
    unfold keysOf at h
    split at h
    · rename_i x t q
      simp only [Option.map_eq_some_iff] at h
      obtain ⟨ys, h1, _⟩ := h
      rw [List.any_cons, keysOf_ref h1, Bool.or_false]
      unfold DictEntry.refKey
      rw [q]
    · cases h
theorem keysOf_find {z : Str} : ∀ {es : List DictEntry} {zs : List Str}, keysOf es = some zs → (es.find? (·.key.isStr z)).isSome = zs.contains z
  | [], zs, h => by cases h; rfl
  | e :: r, zs, h => by
    unfold keysOf at h
    split at h
    · rename_i x t q
      simp only [Option.map_eq_some_iff] at h
      obtain ⟨ys, h1, rfl⟩ := h
      have ih := keysOf_find (z := z) h1
      have e1 : e.key.isStr z = (x == z) := by rw [q]; rfl
      rw [List.find?_cons, e1, List.contains_cons]
      by_cases hx : x = z
      · subst hx; simp
      · have h2 : (x == z) = false := beq_eq_false_iff_ne.mpr hx
        have h3 : (z == x) = false := beq_eq_false_iff_ne.mpr fun e => hx e.symm
        rw [h2, h3, Bool.false_or]; exact ih
    · cases h
def KdLit (K : PySem.W.Frag) (w : World) (x : Str) (zs : List Str) : Prop := ∃ d es n, PySem.W.nsIn K mainGlobals x = some (some (.ref d)) ∧ K.lookup d = some ⟨.type "dict", none, .dict es n, #[]⟩ ∧ keysOf es.toList = some zs ∧ PySem.W.KeysLit w.params es.toList ∧ (d == sysModules) = false
theorem kd_lit {K : PySem.W.Frag} {w : World} {x : Str} {zs : List Str} {d : Addr} {oc : Value} {od : Option Addr} {es : Array DictEntry} {n : Nat} {sl : Array (Option Value)} (h1 : PySem.W.nsIn K mainGlobals x = some (some (.ref d))) (h2 : K.lookup d = some ⟨oc, od, .dict es n, sl⟩) (h3 : oc = .type "dict") (h4 : od = none) (h5 : sl = #[]) (h6 : keysOf es.toList = some zs) (h7 : PySem.W.KeysLit w.params es.toList) (h8 : (d == sysModules) = false) : KdLit K w x zs := by
  subst h3 h4 h5
  exact ⟨d, es, n, h1, h2, h6, h7, h8⟩
theorem kd_of {K : PySem.W.Frag} {w : World} {mg : Str → Option Value} {h : Heap} {x : Str} {zs : List Str} (X : K.In h) (G : h.Ns mainGlobals mg) (z : KdLit K w x zs) : KdAt w K mg x zs := by
  obtain ⟨d, es, n, h1, h2, h6, h7, h8⟩ := z
  refine ⟨d, es, n, PySem.W.mg_of X G h1, ⟨h2, h7, h8⟩, fun z => ?_⟩
  have q := keysOf_find (z := z) h6
  unfold PySem.W.nsIn
  rw [h2]
  dsimp only
  cases e : es.toList.find? (·.key.isStr z) with
  | some y => rw [e] at q; exact ⟨_, rfl, q⟩
  | none => rw [e] at q; exact ⟨none, by rw [keysOf_ref h6]; rfl, q⟩
end M

set_option Elab.async false
set_option maxRecDepth 100000
set_option maxHeartbeats 16000000
/-! M19: plain laws about what code wants; the heap of draws. -/
namespace M
open PySem L2

/-! loops -/
theorem wFor.mk {src : Src} {tg : D → Env' → Store → (Env' → Store → Prop) → Prop} {body : Dn → Env' → Store → Prop} {K : Dn} {e : Env'} {S : Store} (W : Nat → Env' → Store → Prop) (h0 : W 0 e S) (hok : ∀ i e S, W i e S → src.ok S)
    (hle : ∀ i e S, W i e S → i ≤ src.items.length) (hend : ∀ e S, W src.items.length e S → K.nx e S)
    (hstep : ∀ i e S x, W i e S → src.items[i]? = some x → tg x e S fun e2 S2 => body { nx := W (i + 1), ct := W (i + 1), bk := K.nx, rt := K.rt } e2 S2) : wFor src tg body K e S :=
  ⟨W, h0, fun i e S h => ⟨hok i e S h, hle i e S h, fun q => by subst q; exact hend e S h, fun x hx => hstep i e S x h hx⟩⟩
theorem rngItems_len {lo : Int} {n : Nat} : (rngItems lo n).length = n := by simp [rngItems]
theorem rngItems_get {lo : Int} {n i : Nat} {x : D} (h : (rngItems lo n)[i]? = some x) : i < n ∧ x = .int (lo + i) := by
  unfold rngItems at h
  rw [List.getElem?_map] at h
  by_cases hi : i < n
  · rw [List.getElem?_range hi] at h
    simp at h
    exact ⟨hi, h.symm⟩
  · rw [List.getElem?_eq_none (by simpa using hi)] at h
    simp at h
theorem wFor.rng {lo : Int} {n : Nat} {tg : D → Env' → Store → (Env' → Store → Prop) → Prop} {body : Dn → Env' → Store → Prop} {K : Dn} {e : Env'} {S : Store} (W : Nat → Env' → Store → Prop) (h0 : W 0 e S) (hend : ∀ e S, W n e S → K.nx e S)
    (hstep : ∀ i e S, i < n → W i e S → tg (.int (lo + i)) e S fun e2 S2 => body { nx := W (i + 1), ct := W (i + 1), bk := K.nx, rt := K.rt } e2 S2) : wFor ⟨rngItems lo n, none⟩ tg body K e S :=
  wFor.mk (fun i e S => i ≤ n ∧ W i e S) ⟨Nat.zero_le _, h0⟩ (fun _ _ _ _ => trivial) (fun i e S h => by rw [rngItems_len]; exact h.1) (fun e S h => hend e S (by have := h.2; rwa [rngItems_len] at this)) fun i e S x h hx => by
    obtain ⟨hi, rfl⟩ := rngItems_get hx
    have := hstep i e S hi h.2
    have e1 : (fun e S => i + 1 ≤ n ∧ W (i + 1) e S) = W (i + 1) := by
      funext e S
      exact propext ⟨fun z => z.2, fun z => ⟨hi, z⟩⟩
    rw [e1]; exact this
/-- over a list that is not changed -/
theorem wFor.list {ds : List D} {tg : D → Env' → Store → (Env' → Store → Prop) → Prop} {body : Dn → Env' → Store → Prop} {K : Dn} {e : Env'} {S : Store} (W : Nat → Env' → Store → Prop) (h0 : W 0 e S) (hend : ∀ e S, W ds.length e S → K.nx e S)
    (hstep : ∀ i e S x, ds[i]? = some x → W i e S → tg x e S fun e2 S2 => body { nx := W (i + 1), ct := W (i + 1), bk := K.nx, rt := K.rt } e2 S2) : wFor ⟨ds, none⟩ tg body K e S :=
  wFor.mk (fun i e S => i ≤ ds.length ∧ W i e S) ⟨Nat.zero_le _, h0⟩ (fun _ _ _ _ => trivial) (fun i e S h => h.1) (fun e S h => hend e S h.2) fun i e S x h hx => by
    have hi : i < ds.length := (List.getElem?_eq_some_iff.mp hx).1
    have := hstep i e S x hx h.2
    have e1 : (fun e S => i + 1 ≤ ds.length ∧ W (i + 1) e S) = W (i + 1) := by
      funext e S
      exact propext ⟨fun z => z.2, fun z => ⟨hi, z⟩⟩
    show tg x e S fun e2 S2 => body { nx := fun e S => i + 1 ≤ ds.length ∧ W (i + 1) e S, ct := fun e S => i + 1 ≤ ds.length ∧ W (i + 1) e S, bk := K.nx, rt := K.rt } e2 S2
    rw [e1]; exact this
/-- a comprehension's turns -/
theorem lcFor {n : Nat} {C : Nat → List D → Store → Prop} (h : ∃ W : Nat → List D → Store → Prop, W 0 [] S ∧ ∀ i acc S2, W i acc S2 → C i acc S2) : ∃ W : Nat → List D → Store → Prop, W 0 [] S ∧ ∀ i acc S2, W i acc S2 → C i acc S2 := h

/-! the root -/
def rt (n : Int) : Int := ((Float64.isqrt n.toNat : Nat) : Int)
theorem rt_spec {n : Int} (h : 0 ≤ n) : 0 ≤ rt n ∧ rt n * rt n ≤ n ∧ n < (rt n + 1) * (rt n + 1) := by
  obtain ⟨h1, h2⟩ := Float64.isqrt_spec n.toNat
  unfold rt
  have e : ((n.toNat : Nat) : Int) = n := Int.toNat_of_nonneg h
  refine ⟨by omega, ?_, ?_⟩
  · rw [← Int.natCast_mul]; omega
  · have : ((Float64.isqrt n.toNat : Nat) : Int) + 1 = ((Float64.isqrt n.toNat + 1 : Nat) : Int) := by omega
    rw [this, ← Int.natCast_mul]; omega
theorem sq_le {x y : Int} (hx : 0 ≤ x) (h : x ≤ y) : x * x ≤ y * y := Int.mul_le_mul h h hx (by omega)
theorem lt_of_sq {x y : Int} (hy : 0 ≤ y) (h : x * x < y * y) : x < y := by
  by_cases hxy : x < y
  · exact hxy
  · have := sq_le hy (show y ≤ x by omega)
    omega
theorem le_rt {n q : Int} (hn : 0 ≤ n) (h : q * q ≤ n) : q ≤ rt n := by
  obtain ⟨h1, h2, h3⟩ := rt_spec hn
  have := lt_of_sq (x := q) (y := rt n + 1) (by omega) (by omega)
  omega
theorem rt_le {n q : Int} (hn : 0 ≤ n) (hq : 0 ≤ q) (h : n < (q + 1) * (q + 1)) : rt n ≤ q := by
  obtain ⟨h1, h2, h3⟩ := rt_spec hn
  have := lt_of_sq (x := rt n) (y := q + 1) (by omega) (by omega)
  omega
theorem rt_is {n q : Int} (hn : 0 ≤ n) (hq : 0 ≤ q) (h1 : q * q ≤ n) (h2 : n < (q + 1) * (q + 1)) : rt n = q := by
  have a := le_rt hn h1
  have b := rt_le hn hq h2
  omega
theorem log2_lt {n k : Nat} (h : n < 2 ^ k) (hk : 0 < k) : n.log2 < k := by
  by_cases h0 : n = 0
  · subst h0; simpa using hk
  · exact (Nat.log2_lt h0).mpr h

/-! the heap of draws: cell 0 the great numbers, cell 1 the pair; T the cells of callers -/
def GoodH (T S : Store) : Prop := ∃ (cs : List Int) (st : Int), S = .lst (cs.map .int) :: .lst [.ref 0, .int st] :: T ∧ (∀ c ∈ cs, 0 ≤ c) ∧ cs.length ≤ 60 ∧ 0 ≤ st ∧ st < 2147483647
theorem lowDs_ints {k : Nat} : ∀ cs : List Int, lowDs k (cs.map D.int)
  | [] => trivial
  | _ :: r => ⟨trivial, lowDs_ints r⟩
theorem GoodH.len {T S : Store} (h : GoodH T S) : S.length = T.length + 2 := by obtain ⟨cs, st, rfl, _⟩ := h; rfl
theorem GoodH.at_ {T S : Store} (h : GoodH T S) (n : Nat) : S[n + 2]? = T[n]? := by obtain ⟨cs, st, rfl, _⟩ := h; rfl
theorem GoodH.cuts {T S0 S U : Store} (h0 : GoodH T S0) (h : GoodH (T ++ U) S) : Cuts S0 S (T.length + 2) := by
  have l0 := h0.len
  have l1 := h.len
  simp only [List.length_append] at l1
  refine ⟨by omega, by omega, fun n hn => ?_⟩
  match n, hn with
  | 0, _ => obtain ⟨cs, st, rfl, _⟩ := h; exact .inr ⟨_, rfl, lowDs_ints cs⟩
  | 1, _ => obtain ⟨cs, st, rfl, _⟩ := h; exact .inr ⟨_, rfl, by show (0 : Nat) < _; omega, trivial, trivial⟩
  | n + 2, hn => left; rw [h0.at_, h.at_, List.getElem?_append_left (by omega)]
/-- a body's end with the heap -/
theorem GoodH.fin {T S0 S : Store} {F : Post} {d : D} (h : GoodH T S) (h0 : GoodH T S0) (hl : lowD (T.length + 2) d) (hF : F d S) : Fin S0 F d S := by
  have l1 := h.len
  have c := h0.cuts (U := []) (by rw [List.append_nil]; exact h)
  exact ⟨T.length + 2, d, c, .low hl, by rw [List.take_of_length_le (by omega)]; exact hF⟩
/-- .. where cells were added: what is handed back is read off them -/
theorem GoodH.finZ {T U S0 S : Store} {F : Post} {d d' : D} (h : GoodH (T ++ U) S) (h0 : GoodH T S0) (hl : Fz (T.length + 2) S d d') (hF : ∀ S', GoodH T S' → F d' S') : Fin S0 F d S := by
  have c := h0.cuts h
  refine ⟨T.length + 2, d', c, hl, hF _ ?_⟩
  obtain ⟨cs, st, rfl, q⟩ := h
  exact ⟨cs, st, by simp, q⟩
theorem GoodH.finNil {S : Store} {F : Post} {d : D} (h : GoodH [] S) (hl : lowD 2 d) (hF : F d S) : Fin [] F d S := by
  have l1 := h.len
  refine ⟨2, d, ⟨by simp, by simp at l1; omega, fun n hn => .inr ?_⟩, .low hl, by rw [List.take_of_length_le (by simp at l1; omega)]; exact hF⟩
  obtain ⟨cs, st, rfl, _⟩ := h
  match n, hn with
  | 0, _ => exact ⟨_, rfl, lowDs_ints cs⟩
  | 1, _ => exact ⟨_, rfl, by show (0 : Nat) < 2; omega, trivial, trivial⟩
/-- new cells behind the heap -/
theorem GoodH.push {T S : Store} {c : Cell} (h : GoodH T S) : GoodH (T ++ [c]) (S ++ [c]) := by
  obtain ⟨cs, st, rfl, q⟩ := h
  exact ⟨cs, st, by simp, q⟩
theorem GoodH.set {T S : Store} {n : Nat} {c : Cell} (h : GoodH T S) : GoodH (T.set n c) (S.set (n + 2) c) := by
  obtain ⟨cs, st, rfl, q⟩ := h
  exact ⟨cs, st, by simp, q⟩
theorem lowDs_mem {k : Nat} : ∀ {ds : List D} {d : D}, lowDs k ds → d ∈ ds → lowD k d
  | e :: r, d, h, m => by
    rcases List.mem_cons.mp m with q | q
    · subst q; exact h.1
    · exact lowDs_mem h.2 q
/-- the items of what is handed over -/
theorem lw_sq {S : Store} {ds xs : List D} {x : D} (lw : Lw S ds) (hx : x ∈ ds) (h : sqOf S x = some xs) : ∀ d ∈ xs, lowD S.length d := by
  have l := lowDs_mem lw.1 hx
  cases x <;> simp only [sqOf, lsOf, lsM, Option.some.injEq] at h <;> try (cases h; done)
  case ref n =>
    split at h
    · rename_i es e
      cases h
      exact fun d hd => lowDs_mem (lw.2 _ (List.mem_of_getElem? e)) hd
    · cases h
  all_goals (subst h; exact fun d hd => lowDs_mem l hd)
theorem not_str {S : Store} {x : D} {xs : List D} (h : sqOf S x = some xs) : ∀ z, x ≠ .str z := fun z e => by subst e; simp [sqOf, lsOf, lsM] at h
theorem wBi_len {S : Store} {x : D} {xs : List D} {Q : Post} (h : sqOf S x = some xs) : wBi .len [x] S Q ↔ Q (.int xs.length) S := by
  have e : wBi .len [x] S Q ↔ ∃ n : Nat, lnOf S x = some n ∧ Q (.int n) S := by
    cases x <;> first | exact Iff.rfl | (cases h; done)
  have e2 : lnOf S x = some xs.length := by unfold lnOf; rw [h]
  rw [e, e2]; simp
theorem wIx_sq {S : Store} {x : D} {xs : List D} {i : Int} {Q : Post} (h : sqOf S x = some xs) : wIx x (.int i) S Q ↔ ∃ d, atI xs i = some d ∧ Q d S := by
  have e : wIx x (.int i) S Q ↔ ∃ ds d, sqOf S x = some ds ∧ atI ds i = some d ∧ Q d S := by
    cases x with
    | ref n =>
      simp only [sqOf, lsOf, lsM] at h
      split at h
      · rename_i ds q
        simp only [wIx, q]
      · cases h
    | _ => first | exact Iff.rfl | (cases h; done)
  rw [e, h]; simp
theorem sz {n : Nat} (h : n ≤ 1000000) : n ≤ sizeLine := Nat.le_trans h (by decide)
theorem szl {n : Nat} (h : n ≤ 1000000) : n < sizeLine := Nat.lt_of_le_of_lt h (by decide)
theorem get_map {ns : List Int} {i : Nat} {x : D} (h : (ns.map D.int)[i]? = some x) : ∃ c, ns[i]? = some c ∧ x = .int c := by
  rw [List.getElem?_map] at h
  cases e : ns[i]? with
  | none => rw [e] at h; simp at h
  | some c => rw [e] at h; simp at h; exact ⟨c, rfl, h.symm⟩
theorem take_map {α β : Type} {f : α → β} {l : List α} {i : Nat} {c : α} (h : l[i]? = some c) : (l.take (i + 1)).map f = (l.take i).map f ++ [f c] := by
  rw [List.take_add_one, h]; simp
theorem cutTake (ns : List Int) (k : Nat) : cutD (ns.map D.int) none (some (k : Int)) = (ns.take k).map D.int := by
  unfold cutD
  rw [HT.sIx_none, HT.sIx_nat]
  simp only [List.drop_zero, List.length_map, Nat.sub_zero, List.map_take]
  by_cases h : k ≤ ns.length
  · rw [Nat.min_eq_left h]
  · rw [Nat.min_eq_right (by omega), List.take_of_length_le (by simp), List.take_of_length_le (by simp; omega)]
theorem pds_ints : ∀ cs : List Int, pds (cs.map D.int) = true
  | [] => rfl
  | _ :: r => by simp [pds, pd, pds_ints r]
theorem depth_ints : ∀ cs : List Int, PyData.depthAll (toPs (cs.map D.int)) ≤ 1
  | [] => by simp [toPs, PyData.depthAll]
  | _ :: r => by
    have := depth_ints r
    simp only [List.map_cons, toPs, toP, PyData.depthAll, PyData.depth]
    omega
theorem okD_ints (cs : List Int) : okD (.lst (cs.map .int)) := ⟨by simp [pd, pds_ints], by
  have := depth_ints cs
  simp only [toP, PyData.depth]
  omega⟩
theorem okD_nil : okD (.lst []) := okD_ints []
theorem okD_int {i : Int} : okD (.int i) := ⟨rfl, by simp [toP, PyData.depth]⟩
theorem okD_bl {b : Bool} : okD (.bl b) := ⟨rfl, by simp [toP, PyData.depth]⟩
theorem shw_int {i : Int} (h : i.natAbs < 2 ^ 1000) : shw (.int i) = true := decide_eq_true (Nat.lt_trans (log2_lt h (by omega)) (by omega))
theorem shw_bl {b : Bool} : shw (.bl b) = true := rfl
theorem wid_int {i : Int} : wid (.int i) ≤ sizeLine := by show 2000 ≤ sizeLine; exact sz (by omega)
theorem wid_bl {b : Bool} : wid (.bl b) ≤ sizeLine := by show 5 ≤ sizeLine; exact sz (by omega)
theorem rd_int {S : Store} {i : Int} : rd S (.int i) = .int i := rfl
theorem rd_bl {S : Store} {b : Bool} : rd S (.bl b) = .bl b := rfl
theorem rd_lst {S : Store} {xs : List D} : rd S (.lst xs) = .lst xs := rfl
theorem rd_tup {S : Store} {xs : List D} : rd S (.tup xs) = .tup xs := rfl
theorem eqv_nil (cs : List Int) : PyData.eqv (toP (.lst (cs.map .int))) (toP (.lst [])) = decide (cs = []) := by
  cases cs with
  | nil => rfl
  | cons c r => simp [toP, toPs, PyData.eqv, PyData.eqvAll]
theorem atI_nat {α : Type} {xs : List α} {j : Nat} : atI xs (j : Int) = xs[j]? := by
  unfold atI ixN
  rw [if_pos (by omega)]
  by_cases h : (j : Int) < xs.length
  · rw [if_pos h]; simp
  · rw [if_neg h, List.getElem?_eq_none (by omega)]; rfl
theorem atI_neg1 {α : Type} {xs : List α} (h : xs ≠ []) : atI xs (-1) = xs[xs.length - 1]? := by
  unfold atI ixN
  have : 0 < xs.length := List.length_pos_iff.mpr h
  rw [if_neg (by omega), if_pos (by omega)]
  show xs[_]? = _
  congr 1
  omega
theorem atI_int {α : Type} {xs : List α} {r : Int} (h0 : 0 ≤ r) (h1 : r < xs.length) : ∃ x, x ∈ xs ∧ atI xs r = some x := by
  obtain ⟨j, rfl⟩ := Int.eq_ofNat_of_zero_le h0
  rw [atI_nat]
  have hj : j < xs.length := by simp at h1; omega
  exact ⟨xs[j], List.getElem_mem hj, List.getElem?_eq_getElem hj⟩
theorem atI_end {α : Type} (xs : List α) (d : α) : atI (xs ++ [d]) (-1) = some d := by
  rw [atI_neg1 (by simp)]; simp
theorem atI_0 {α : Type} (x : α) (xs : List α) : atI (x :: xs) 0 = some x := atI_nat (j := 0)
theorem atI_1 {α : Type} (x y : α) (xs : List α) : atI (x :: y :: xs) 1 = some y := atI_nat (j := 1)
theorem atI_2 {α : Type} (x y z : α) (xs : List α) : atI (x :: y :: z :: xs) 2 = some z := atI_nat (j := 2)
theorem atI_3 {α : Type} (x y z u : α) (xs : List α) : atI (x :: y :: z :: u :: xs) 3 = some u := atI_nat (j := 3)
theorem atI_4 {α : Type} (x y z u v : α) (xs : List α) : atI (x :: y :: z :: u :: v :: xs) 4 = some v := atI_nat (j := 4)
theorem ixN_1 : ixN 2 1 = some 1 := by decide
theorem ixN_0 : ixN 2 0 = some 0 := by decide
theorem Fin.int {S : Store} {F : Post} {i : Int} (h : F (.int i) S) : Fin S F (.int i) S := Fin.same trivial h
theorem Fin.bl {S : Store} {F : Post} {b : Bool} (h : F (.bl b) S) : Fin S F (.bl b) S := Fin.same trivial h
end M

set_option Elab.async false
set_option maxRecDepth 100000
set_option maxHeartbeats 16000000
/-! M20: what code wants, step by step. -/
namespace M
open PySem L2
section
variable {G : Gam} {e : Env'} {S : Store} {Q : Post} {K : Dn} {a b c i o : E} {es ks : Es} {m : Bool} {d x y : D} {ds xs : List D}
theorem E_var {n : Nat} (h : e[n]? = some (some d)) (k : Q d S) : wE (.var n) G e S Q := by simp only [wE, h]; exact k
theorem E_cst (k : Q d S) : wE (.cst d) G e S Q := by simp only [wE]; exact k
theorem E_glb {n : Nat} (h : G.gl[n]? = some d) (k : Q d S) : wE (.glb n) G e S Q := by simp only [wE, h]; exact k
theorem E_bin {o : Operator} (k : wE a G e S fun x S1 => wE b G e S1 fun y S2 => wBin m o x y S2 Q) : wE (.bin m o a b) G e S Q := by simp only [wE]; exact k
theorem E_neg (k : wE a G e S fun x S1 => wNeg x S1 Q) : wE (.neg a) G e S Q := by simp only [wE]; exact k
theorem E_cmp {o : CmpOp} (k : wE a G e S fun x S1 => wE b G e S1 fun y S2 => wCmp o x y S2 fun c => Q (.bl c) S2) : wE (.cmp o a b) G e S Q := by simp only [wE]; exact k
theorem E_cmp2 {o p : CmpOp} (k : wE a G e S fun x S1 => wE b G e S1 fun y S2 => wCmp o x y S2 fun t => if t = true then wE c G e S2 fun z S3 => wCmp p y z S3 fun t => Q (.bl t) S3 else Q (.bl false) S2) : wE (.cmp2 o p a b c) G e S Q := by simp only [wE]; exact k
theorem E_and (k : wE a G e S fun x S1 => wB x fun t => if t = true then wE b G e S1 Q else Q (.bl false) S1) : wE (.and a b) G e S Q := by simp only [wE]; exact k
theorem E_or (k : wE a G e S fun x S1 => wB x fun t => if t = true then Q (.bl true) S1 else wE b G e S1 Q) : wE (.or a b) G e S Q := by simp only [wE]; exact k
theorem E_not (k : wE a G e S fun x S1 => wB x fun t => Q (.bl (!t)) S1) : wE (.not a) G e S Q := by simp only [wE]; exact k
theorem E_ite (k : wE c G e S fun x S1 => wB x fun t => if t = true then wE a G e S1 Q else wE b G e S1 Q) : wE (.ite c a b) G e S Q := by simp only [wE]; exact k
theorem E_tup (k : wEs es G e S fun ds S1 => ds.length ≤ sizeLine ∧ Q (.tup ds) S1) : wE (.tup es) G e S Q := by simp only [wE]; exact k
theorem E_lst (k : wEs es G e S fun ds S1 => ds.length ≤ sizeLine ∧ mkL m ds S1 Q) : wE (.lst m es) G e S Q := by simp only [wE]; exact k
theorem E_ix (k : wE a G e S fun x S1 => wE i G e S1 fun y S2 => wIx x y S2 Q) : wE (.ix a i) G e S Q := by simp only [wE]; exact k
theorem E_sl {lo hi : Oe} (k : wE a G e S fun x S1 => wO lo G e S1 fun l S2 => wO hi G e S2 fun h S3 => wSl m x l h S3 Q) : wE (.sl m a lo hi) G e S Q := by simp only [wE]; exact k
theorem E_rv (k : wE a G e S fun x S1 => wRv m x S1 Q) : wE (.rv m a) G e S Q := by simp only [wE]; exact k
theorem E_bi {f : Bi} (k : wEs es G e S fun ds S1 => wBi f ds S1 Q) : wE (.bi f es) G e S Q := by simp only [wE]; exact k
theorem E_bl {f : Bl} (k : wEs es G e S fun ds S1 => wBl m f ds S1 Q) : wE (.bl m f es) G e S Q := by simp only [wE]; exact k
theorem E_call {n : Nat} (k : wEs es G e S fun ds S1 => wCall G n ds e S1 Q) : wE (.call n es) G e S Q := by simp only [wE]; exact k
theorem E_callK {n : Nat} {pm : List Nat} (k : wEs es G e S fun ds S1 => wEs ks G e S1 fun zs S2 => wCall G n (pmut pm (ds ++ zs)) e S2 Q) : wE (.callK n pm es ks) G e S Q := by simp only [wE]; exact k
theorem E_me {f : Me} (k : wE o G e S fun x S1 => (lsOf S1 x).isSome = true ∧ wEs es G e S1 fun ds S2 => wMe f x ds S2 Q) : wE (.me f o es) G e S Q := by simp only [wE]; exact k
theorem E_lr (k : wEs es G e S fun ds S1 => wLr m ds S1 Q) : wE (.lr m es) G e S Q := by simp only [wE]; exact k
theorem E_mxd (k : wE a G e S fun x S1 => wE b G e S1 fun y S2 => wMxd x y S2 Q) : wE (.mxd a b) G e S Q := by simp only [wE]; exact k
theorem E_isi {T : String} (k : wE a G e S fun x S1 => wIsi T x S1 Q) : wE (.isi a T) G e S Q := by simp only [wE]; exact k
theorem C_call {n : Nat} {fs : List MSp} {gl : List D} {ex : D → Env' → Store → Prop} {xa : Option (Addr × Addr × Str)} {sp : MSp} (h : fs[n]? = some sp) (k : sp ds S Q fun d S' => ex d e S') : wCall ⟨fs, gl, ex, xa⟩ n ds e S Q := by
  unfold wCall; simp only [h]; exact k
theorem C_callN {n : Nat} {fs : List MSp} {gl : List D} {ex : D → Env' → Store → Prop} {xa : Option (Addr × Addr × Str)} {sp : MSp} (h : fs[n]? = some sp) (k : sp ds S Q fun d S' => False) : wCall (Gam.nox ⟨fs, gl, ex, xa⟩) n ds e S Q := by
  unfold wCall Gam.nox; simp only [h]; exact k
theorem T_no {Q : Bool → Store → Prop} (k : Q true S) : wT .no G e S Q := by simp only [wT]; exact k
theorem T_so {Q : Bool → Store → Prop} (k : wE a G e S fun x S1 => wB x fun b => Q b S1) : wT (.so a) G e S Q := by simp only [wT]; exact k
theorem Es_nil {Q : List D → Store → Prop} (k : Q [] S) : wEs .nil G e S Q := by simp only [wEs]; exact k
theorem Es_cons {Q : List D → Store → Prop} (k : wE a G e S fun x S1 => wEs es G e S1 fun xs S2 => Q (x :: xs) S2) : wEs (.cons a es) G e S Q := by simp only [wEs]; exact k
theorem O_no {Q : Option Int → Store → Prop} (k : Q none S) : wO .no G e S Q := by simp only [wO]; exact k
/-- a part of a slice -/
def wOi (x : D) (S : Store) (Q : Option Int → Store → Prop) : Prop := match x with
  | .int i => Q (some i) S
  | _ => False
theorem O_so {Q : Option Int → Store → Prop} (k : wE a G e S fun x S1 => wOi x S1 Q) : wO (.so a) G e S Q := by simp only [wO]; exact k
theorem O_int {Q : Option Int → Store → Prop} {n : Int} (k : Q (some n) S) : wOi (.int n) S Q := k
theorem I_seq {Q : Src → Store → Prop} (k : wE a G e S fun x S1 => srcOf x S1 fun c => Q c S1) : wIt (.seq a) G e S Q := by simp only [wIt]; exact k
theorem I_rng {Q : Src → Store → Prop} (k : wEs es G e S fun ds S1 => wRng ds fun c => Q c S1) : wIt (.rng es) G e S Q := by simp only [wIt]; exact k
theorem I_enu {Q : Src → Store → Prop} (k : wE a G e S fun x S1 => ∃ xs, valOf x = some xs ∧ Q ⟨enuD xs, none⟩ S1) : wIt (.enu a) G e S Q := by simp only [wIt]; exact k
theorem I_zip {Q : Src → Store → Prop} (k : wE a G e S fun x S1 => wE b G e S1 fun y S2 => ∃ xs ys, valOf x = some xs ∧ valOf y = some ys ∧ Q ⟨zip2D xs ys, none⟩ S2) : wIt (.zip a b) G e S Q := by simp only [wIt]; exact k
theorem I_zip3 {Q : Src → Store → Prop} (k : wE a G e S fun x S1 => wE b G e S1 fun y S2 => wE c G e S2 fun z S3 => ∃ xs ys zs, valOf x = some xs ∧ valOf y = some ys ∧ valOf z = some zs ∧ Q ⟨zip3D xs ys zs, none⟩ S3) : wIt (.zip3 a b c) G e S Q := by simp only [wIt]; exact k
theorem I_zipn {Q : Src → Store → Prop} (k : wEs es G e S fun ds S1 => wZn ds fun c => Q c S1) : wIt (.zipn es) G e S Q := by simp only [wIt]; exact k
theorem E_callS {n j : Nat} (k : wE a G e S fun x S1 => ∃ ds, valOf x = some ds ∧ ds.length = j ∧ wCall G n ds e S1 Q) : wE (.callS n j a) G e S Q := by simp only [wE]; exact k
theorem A_eq {i j : Nat} {P : Prop} (h : i = j) (q : P) : i = j ∧ P := ⟨h, q⟩
theorem X_1 {x : D} {P : List D → Prop} {xs : List D} (h : valOf x = some xs) (k : P xs) : ∃ xs, valOf x = some xs ∧ P xs := ⟨xs, h, k⟩
theorem X_2 {x y : D} {P : List D → List D → Prop} {xs ys : List D} (h : valOf x = some xs) (h2 : valOf y = some ys) (k : P xs ys) : ∃ xs ys, valOf x = some xs ∧ valOf y = some ys ∧ P xs ys := ⟨xs, ys, h, h2, k⟩
theorem X_3 {x y z : D} {P : List D → List D → List D → Prop} {xs ys zs : List D} (h : valOf x = some xs) (h2 : valOf y = some ys) (h3 : valOf z = some zs) (k : P xs ys zs) : ∃ xs ys zs, valOf x = some xs ∧ valOf y = some ys ∧ valOf z = some zs ∧ P xs ys zs := ⟨xs, ys, zs, h, h2, h3, k⟩
theorem R_1 {Q : Src → Prop} {j : Int} (h : -(2 ^ 62) ≤ j ∧ j < 2 ^ 62) (k : Q ⟨rngItems 0 j.toNat, none⟩) : wRng [.int j] Q := ⟨h, k⟩
theorem R_2 {Q : Src → Prop} {i j : Int} (h : -(2 ^ 62) ≤ i ∧ i < 2 ^ 62 ∧ -(2 ^ 62) ≤ j ∧ j < 2 ^ 62) (k : Q ⟨rngItems i (j - i).toNat, none⟩) : wRng [.int i, .int j] Q := ⟨h, k⟩
theorem Src_tup {Q : Src → Prop} (k : Q ⟨ds, none⟩) : srcOf (.tup ds) S Q := k
theorem Src_lst {Q : Src → Prop} (k : Q ⟨ds, none⟩) : srcOf (.lst ds) S Q := k
theorem Src_rol {Q : Src → Prop} (k : Q ⟨ds, none⟩) : srcOf (.rol ds) S Q := k
theorem Src_ref {Q : Src → Prop} {n : Nat} (h : S[n]? = some (.lst ds)) (k : Q ⟨ds, some n⟩) : srcOf (.ref n) S Q := ⟨ds, h, k⟩
theorem Tg_nm {Q : Env' → Store → Prop} {n : Nat} (k : Q (e.set n (some d)) S) : wTg (.nm n) G d e S Q := by simp only [wTg]; exact k
theorem Tg_tp {Q : Env' → Store → Prop} {ts : Tgs} (h : ds.length = tgsLen ts) (k : wTgs ts G ds e S Q) : wTg (.tp ts) G (.tup ds) e S Q := by simp only [wTg]; exact ⟨h, k⟩
theorem Tg_ix {Q : Env' → Store → Prop} (k : wE o G e S fun x S1 => wE i G e S1 fun y S2 => wSet x y d S2 fun S3 => Q e S3) : wTg (.ix o i) G d e S Q := by simp only [wTg]; exact k
theorem Tgs_nil {Q : Env' → Store → Prop} (k : Q e S) : wTgs .nil G [] e S Q := by simp only [wTgs]; exact ⟨trivial, k⟩
theorem Tgs_cons {Q : Env' → Store → Prop} {t : Tg} {ts : Tgs} (k : wTg t G d e S fun e1 S1 => wTgs ts G ds e1 S1 Q) : wTgs (.cons t ts) G (d :: ds) e S Q := by simp only [wTgs]; exact k
theorem S_asg {t : Tg} (k : wE a G e S fun x S1 => wTg t G x e S1 K.nx) : wS (.asg t a) G K e S := by simp only [wS]; exact k
theorem S_par {ts : Tgs} (k : wEs es G e S fun ds S1 => ds.length ≤ sizeLine ∧ wTgs ts G ds e S1 K.nx) : wS (.par ts es) G K e S := by simp only [wS]; exact k
theorem S_aug {n : Nat} {o : Operator} (h : e[n]? = some (some x)) (k : wE a G e S fun y S1 => wAug o x y fun d => K.nx (e.set n (some d)) S1) : wS (.aug n o a) G K e S := by simp only [wS, h]; exact k
theorem S_ex (k : wE a G e S fun _ S1 => K.nx e S1) : wS (.ex a) G K e S := by simp only [wS]; exact k
theorem S_ret (k : wE a G e S K.rt) : wS (.ret a) G K e S := by simp only [wS]; exact k
theorem S_retN (k : K.rt .non S) : wS .retN G K e S := by simp only [wS]; exact k
theorem S_ite {s t : Ss} (k : wE c G e S fun x S1 => wB x fun b => if b = true then wSs s G K e S1 else wSs t G K e S1) : wS (.ite c s t) G K e S := by simp only [wS]; exact k
theorem S_for {t : Tg} {it : It} {s : Ss} (k : wIt it G e S fun src S1 => wFor src (wTg t G) (wSs s G) K e S1) : wS (.for_ t it s) G K e S := by simp only [wS]; exact k
theorem S_whl {s : Ss} (k : wWhile (wE c G) (wSs s G) K e S) : wS (.whl c s) G K e S := by simp only [wS]; exact k
theorem S_pass (k : K.nx e S) : wS .pass G K e S := by simp only [wS]; exact k
theorem S_brk (k : K.bk e S) : wS .brk G K e S := by simp only [wS]; exact k
theorem S_cont (k : K.ct e S) : wS .cont G K e S := by simp only [wS]; exact k
/-! exceptions -/
theorem S_raise {c : Str} {ns : List Str} (k : wEs es G e S fun ds S1 => ds.length = ns.length ∧ G.ex (.ins c ns ds.reverse) e S1) : wS (.raise c ns es) G K e S := by simp only [wS]; exact k
theorem S_tryAs {fs : List MSp} {gl : List D} {ex : D → Env' → Store → Prop} {xa : Option (Addr × Addr × Str)} {tb : List (Str × Bool)} {n : Nat} {s t : Ss}
    (k : wSs s ⟨fs, gl, exTry tb (fun a dx c ns ds e1 S1 => wSs t ⟨fs, gl, fun _ _ _ => False, some (a, dx, c)⟩ (K.off n) (e1.set n (some (.exc a dx c ns ds))) S1) ex, none⟩ K e S) : wS (.tryAs tb n s t) ⟨fs, gl, ex, xa⟩ K e S := by simp only [wS, Gam.tr, Gam.cat]; exact k
theorem S_tryOn {fs : List MSp} {gl : List D} {ex : D → Env' → Store → Prop} {xa : Option (Addr × Addr × Str)} {tb : List (Str × Bool)} {s t : Ss}
    (k : wSs s ⟨fs, gl, exTry tb (fun _ _ _ _ _ e1 S1 => wSs t ⟨fs, gl, fun _ _ _ => False, none⟩ K e1 S1) ex, none⟩ K e S) : wS (.tryOn tb s t) ⟨fs, gl, ex, xa⟩ K e S := by simp only [wS, Gam.tr, Gam.nox]; exact k
theorem X_T {tb : List (Str × Bool)} {s : Addr → Addr → Str → List Str → List D → Env' → Store → Prop} {o : D → Env' → Store → Prop} {c : Str} {ns : List Str} (h : tb.lookup c = some true) (k : ∀ a dx, s a dx c ns ds e S) : exTry tb s o (.ins c ns ds) e S := by
  simp only [exTry, h]; exact k
theorem X_F {tb : List (Str × Bool)} {s : Addr → Addr → Str → List Str → List D → Env' → Store → Prop} {o : D → Env' → Store → Prop} {c : Str} {ns : List Str} (h : tb.lookup c = some false) (k : o (.ins c ns ds) e S) : exTry tb s o (.ins c ns ds) e S := by
  simp only [exTry, h]; exact k
theorem X_same {S : Store} {Y : Post} (hl : lowD S.length d) (h : Y d S) : FX S Y d e S := FinX.same hl h
theorem X_pure {S T : Store} {Y : Post} {d' : D} (hz : Fz S.length (S ++ T) d d') (h : Y d' S) : FX S Y d e (S ++ T) := FinX.pure hz h
theorem E_xat {f : Str} (k : wE a G e S fun x S1 => wXat G x f S1 Q) : wE (.xat a f) G e S Q := by simp only [wE]; exact k
theorem E_xis {tb : List (Str × Bool)} (k : wE a G e S fun x S1 => wXis G x tb S1 Q) : wE (.xis a tb) G e S Q := by simp only [wE]; exact k
theorem E_xit {tbs : List (List (Str × Bool))} (k : wE a G e S fun x S1 => wXit G x tbs S1 Q) : wE (.xit a tbs) G e S Q := by simp only [wE]; exact k
theorem V_xat {fs : List MSp} {gl : List D} {ex : D → Env' → Store → Prop} {ad dx : Addr} {c f : Str} {ns : List Str} (h : (ns.zip ds).lookup f = some d) (k : Q d S) : wXat ⟨fs, gl, ex, some (ad, dx, c)⟩ (.exc ad dx c ns ds) f S Q := ⟨ad, dx, c, ns, ds, d, rfl, rfl, h, k⟩
theorem V_xis {fs : List MSp} {gl : List D} {ex : D → Env' → Store → Prop} {ad dx : Addr} {c : Str} {ns : List Str} {tb : List (Str × Bool)} {t : Bool} (h : tb.lookup c = some t) (k : Q (.bl t) S) : wXis ⟨fs, gl, ex, some (ad, dx, c)⟩ (.exc ad dx c ns ds) tb S Q := ⟨ad, dx, c, ns, ds, t, rfl, rfl, h, k⟩
theorem V_xit {fs : List MSp} {gl : List D} {ex : D → Env' → Store → Prop} {ad dx : Addr} {c : Str} {ns : List Str} {tbs : List (List (Str × Bool))} {t : Bool} (h : anyTb c tbs = some t) (k : Q (.bl t) S) : wXit ⟨fs, gl, ex, some (ad, dx, c)⟩ (.exc ad dx c ns ds) tbs S Q := ⟨ad, dx, c, ns, ds, t, rfl, rfl, h, k⟩
/-! classes -/
theorem E_fld {f : Str} {cs : List Str} (k : wE a G e S fun x S1 => wFld cs f x S1 Q) : wE (.fld a f cs) G e S Q := by simp only [wE]; exact k
theorem V_fld {n : Nat} {f c : Str} {cs ns : List Str} (h : S[n]? = some (.ins c ns ds)) (hc : cs.contains c = true) (hl : (ns.zip ds).lookup f = some d) (k : Q d S) : wFld cs f (.ref n) S Q := ⟨c, ns, ds, d, by simp only [insOf, h], hc, hl, k⟩
theorem V_fldV {f c : Str} {cs ns : List Str} (hc : cs.contains c = true) (hl : (ns.zip ds).lookup f = some d) (k : Q d S) : wFld cs f (.ins c ns ds) S Q := ⟨c, ns, ds, d, rfl, hc, hl, k⟩
theorem E_mth {tb : List (Str × Nat × List Nat)} {m : Str} (k : wE o G e S fun x S1 => ∃ c ns vs k pm, insOf S1 x = some (c, ns, vs) ∧ tb.lookup c = some (k, pm) ∧ ns.contains m = false ∧ wEs es G e S1 fun ds S2 => wEs ks G e S2 fun zs S3 => wCall G k (pmut pm (x :: (ds ++ zs))) e S3 Q) : wE (.mth tb m o es ks) G e S Q := by simp only [wE]; exact k
theorem V_mth {n k : Nat} {pm : List Nat} {c m : Str} {ns : List Str} {tb : List (Str × Nat × List Nat)} {P : Nat → List Nat → Prop} (h : S[n]? = some (.ins c ns ds)) (hl : tb.lookup c = some (k, pm)) (hm : ns.contains m = false) (q : P k pm) :
    ∃ c ns vs k pm, insOf S (.ref n) = some (c, ns, vs) ∧ tb.lookup c = some (k, pm) ∧ ns.contains m = false ∧ P k pm := ⟨c, ns, ds, k, pm, by simp only [insOf, h], hl, hm, q⟩
theorem E_mkc {n : Nat} {c : Str} {pm : List Nat} (k : wEs es G e S fun ds S1 => wEs ks G e S1 fun zs S2 => wCall G n (pmut pm (.ref S2.length :: (ds ++ zs))) e (S2 ++ [.ins c [] []]) fun d S' => d = .non ∧ Q (.ref S2.length) S') : wE (.mkc n c pm es ks) G e S Q := by simp only [wE]; exact k
theorem Tg_at {Q : Env' → Store → Prop} {f : Str} {cs : List Str} (k : wE o G e S fun x S1 => wSetF cs f x d S1 fun S2 => Q e S2) : wTg (.at_ o f cs) G d e S Q := by simp only [wTg]; exact k
theorem V_setF {n : Nat} {f c : Str} {cs ns : List Str} {Q : Store → Prop} (h : S[n]? = some (.ins c ns ds)) (hc : cs.contains c = true) (hl : ns.length < 900) (q : Q (S.set n (.ins c (putN ns f) (putV ns ds f d)))) : wSetF cs f (.ref n) d S Q := ⟨n, c, ns, ds, rfl, h, hc, hl, q⟩
theorem S_tryAs2 {fs : List MSp} {gl : List D} {ex : D → Env' → Store → Prop} {xa : Option (Addr × Addr × Str)} {tb : List (Str × Bool)} {n : Nat} {s t : Ss}
    (k : wSs s ⟨fs, gl, exTry tb (fun a dx c ns ds e1 S1 => wSs t ⟨fs, gl, fun _ _ _ => False, some (a, dx, c)⟩ (K.off n) (e1.set n (some (.exc a dx c ns ds))) S1) (fun _ _ _ => False), none⟩ K e S) : wS (.tryAs2 tb n s t) ⟨fs, gl, ex, xa⟩ K e S := by simp only [wS, Gam.tr, Gam.cat]; exact k
theorem V_removeD {n j : Nat} (h : S[n]? = some (.lst xs)) (h1 : okD d) (h2 : okD (.lst xs)) (h3 : (xs.findIdx? fun z => PyData.eqv (toP z) (toP d)) = some j) (hd : ∀ z, d ≠ .int z) (q : Q .non (S.set n (.lst (xs.eraseIdx j)))) : wMe .remove (.ref n) [d] S Q := by
  cases d <;> first | exact absurd rfl (hd _) | exact ⟨xs, j, h, h1, h2, h3, q⟩
theorem E_dsp {ks : List Key} (k : wEs es G e S fun ds S1 => mkDc m ks ds S1 Q) : wE (.dsp m ks es) G e S Q := by simp only [wE]; exact k
theorem Dc_F {ks : List Key} (k : Q (.dct ks ds) S) : mkDc false ks ds S Q := k
theorem Dc_T {ks : List Key} (k : Q (.ref S.length) (S ++ [.dct false ks ds])) : mkDc true ks ds S Q := k
theorem E_kin {t : Bool} {x : Str} {zs : List Str} (k : wE a G e S fun x S1 => ∃ z, x = .str z ∧ Q (.bl (xor t (zs.contains z))) S1) : wE (.kin t a x zs) G e S Q := by simp only [wE]; exact k
theorem K_in {P : Str → Prop} {z : Str} (k : P z) : ∃ y, D.str z = .str y ∧ P y := ⟨z, rfl, k⟩
theorem S_forD {fs : List MSp} {gl : List D} {ex : D → Env' → Store → Prop} {xa : Option (Addr × Addr × Str)} {n j : Nat} {ks : List Key} {s : Ss} (h : e[n]? = some (some (.dct ks ds))) (k : wFor ⟨ks.map keyD, none⟩ (fun d e S Q => Q (e.set j (some d)) S) (wSs s ⟨fs, gl, fun _ _ _ => False, none⟩) K e S) : wS (.forD n j s) ⟨fs, gl, ex, xa⟩ K e S := by
  simp only [wS, h]; exact ⟨ks, ds, rfl, k⟩
theorem V_ixD {ks : List Key} {y : D} {k : Key} (h : kOf y = some k) (h2 : atK ks ds k = some d) (q : Q d S) : wIx (.dct ks ds) y S Q := by
  cases y <;> first | (cases h; done) | exact ⟨k, d, h, h2, q⟩
theorem V_ixC {n : Nat} {lk : Bool} {ks : List Key} {y : D} {k : Key} (h0 : S[n]? = some (.dct lk ks ds)) (h : kOf y = some k) (h2 : atK ks ds k = some d) (q : Q d S) : wIx (.ref n) y S Q := by
  cases y <;> first | (cases h; done) | (simp only [wIx, h0]; exact ⟨k, d, h, h2, q⟩)
theorem V_inD {ks : List Key} {k : Key} {P : Bool → Prop} (h : kOf x = some k) (q : P (hasK ks k)) : wCmp .In x (.dct ks ds) S P := by
  show wIn x (.dct ks ds) S P
  exact ⟨k, h, q⟩
theorem V_niD {ks : List Key} {k : Key} {P : Bool → Prop} (h : kOf x = some k) (q : P (!hasK ks k)) : wCmp .NotIn x (.dct ks ds) S P := by
  show wIn x (.dct ks ds) S fun b => P (!b)
  exact ⟨k, h, q⟩
theorem V_inC {n : Nat} {lk : Bool} {ks : List Key} {k : Key} {P : Bool → Prop} (h0 : S[n]? = some (.dct lk ks ds)) (h : kOf x = some k) (q : P (hasK ks k)) : wCmp .In x (.ref n) S P := by
  show wIn x (.ref n) S P
  simp only [wIn, h0]
  exact ⟨k, h, q⟩
theorem V_niC {n : Nat} {lk : Bool} {ks : List Key} {k : Key} {P : Bool → Prop} (h0 : S[n]? = some (.dct lk ks ds)) (h : kOf x = some k) (q : P (!hasK ks k)) : wCmp .NotIn x (.ref n) S P := by
  show wIn x (.ref n) S fun b => P (!b)
  simp only [wIn, h0]
  exact ⟨k, h, q⟩
theorem V_lenD {ks : List Key} (q : Q (.int ks.length) S) : wBi .len [.dct ks ds] S Q := ⟨ks.length, rfl, q⟩
theorem V_lenC {n : Nat} {lk : Bool} {ks : List Key} (h0 : S[n]? = some (.dct lk ks ds)) (q : Q (.int ks.length) S) : wBi .len [.ref n] S Q := ⟨ks.length, by simp [lnOf, sqOf, lsOf, lsM, dcOf, h0], q⟩
theorem V_setC {n : Nat} {ks : List Key} {y : D} {k : Key} {Q : Store → Prop} (h0 : S[n]? = some (.dct false ks ds)) (h : kOf y = some k) (hl : ks.length < sizeLine) (q : Q (S.set n (.dct false (putKs ks k) (putDs ks ds k d)))) : wSet (.ref n) y d S Q := by
  unfold wSet
  simp only [h0]
  exact ⟨k, h, hl, q⟩
/-! texts -/
/-- a text by its signs -/
def tx (l : List Nat) : Str := ⟨l.toArray⟩
theorem tx_len (l : List Nat) : (tx l).length = l.length := by simp [tx, Str.length]
theorem tx_app (a b : List Nat) : tx a ++ tx b = tx (a ++ b) := by
  show (⟨(tx a).cps ++ (tx b).cps⟩ : Str) = _
  simp [tx]
theorem tx_inj {a b : List Nat} : tx a = tx b ↔ a = b := by simp [tx]
theorem tx_dec (a b : List Nat) : decide (tx a = tx b) = decide (a = b) := by simp [tx]
theorem tx_num (n : Nat) : Str.ofString (toString ((n : Nat) : Int)) = tx (TL.numL n) := TL.ext_tl (TL.tl_num n)
theorem tx_cps (l : List Nat) : (tx l).cps.toList = l := rfl
theorem tx_starts (a b : List Nat) : Txt.startswith (tx a) (tx b) = b.isPrefixOf a := by
  have e : ((tx a).cps.extract 0 (0 + (tx b).length) == (tx b).cps) = (a.take b.length == b) := by
    rw [Bool.eq_iff_iff, beq_iff_eq, beq_iff_eq, ← Array.toList_inj]
    simp [tx, Str.length]
  unfold Txt.startswith Builtin.Str.subAt
  rw [e, tx_len, tx_len, Bool.eq_iff_iff, List.isPrefixOf_iff_prefix, Bool.and_eq_true, decide_eq_true_eq, beq_iff_eq]
  constructor
  · rintro ⟨_, h⟩
    rw [← h]; exact List.take_prefix _ _
  · intro h
    exact ⟨by have := h.length_le; omega, (List.prefix_iff_eq_take.mp h).symm⟩
theorem tx_ends (a b : List Nat) : Txt.endswith (tx a) (tx b) = b.isSuffixOf a := by
  have e : b.length ≤ a.length → ((tx a).cps.extract ((tx a).length - (tx b).length) ((tx a).length - (tx b).length + (tx b).length) == (tx b).cps) = (a.drop (a.length - b.length) == b) := fun h => by
    rw [Bool.eq_iff_iff, beq_iff_eq, beq_iff_eq, ← Array.toList_inj, tx_len, tx_len]
    simp only [tx, Array.toList_extract, List.extract_eq_drop_take]
    rw [show a.length - b.length + b.length - (a.length - b.length) = b.length by omega, List.take_of_length_le (by simp; omega)]
  unfold Txt.endswith Builtin.Str.subAt
  by_cases h : b.length ≤ a.length
  · rw [e h, tx_len, tx_len, Bool.eq_iff_iff, List.isSuffixOf_iff_suffix, Bool.and_eq_true, decide_eq_true_eq, beq_iff_eq]
    constructor
    · rintro ⟨_, q⟩
      rw [← q]; exact List.drop_suffix _ _
    · intro q
      exact ⟨by omega, (List.suffix_iff_eq_drop.mp q).symm⟩
  · rw [tx_len, tx_len, show decide (0 + b.length ≤ a.length) = false from decide_eq_false (by omega), Bool.false_and]
    symm
    rw [Bool.eq_false_iff]
    intro q
    have := (List.isSuffixOf_iff_suffix.mp q).length_le
    omega
theorem tx_cut (z : List Nat) (lo hi : Option Int) : cutS (tx z) lo hi = tx ((z.drop (HT.sIx z.length 0 lo)).take (HT.sIx z.length z.length hi - HT.sIx z.length 0 lo)) := by
  unfold cutS
  rw [tx_len]; rfl
theorem E_sm {f : Sm} (k : wE o G e S fun x S1 => (∃ a, x = .str a) ∧ wEs es G e S1 fun ds S2 => wSm f x ds S2 Q) : wE (.sm f o es) G e S Q := by simp only [wE]; exact k
theorem E_fs (k : wFs es (tx []) G e S fun y S1 => Q (.str y) S1) : wE (.fs es) G e S Q := by simp only [wE]; exact k
theorem Fs_nil {acc : Str} {Q : Str → Store → Prop} (k : Q acc S) : wFs .nil acc G e S Q := by simp only [wFs]; exact k
theorem Fs_cons {acc : Str} {Q : Str → Store → Prop} (k : wE a G e S fun x S1 => ∃ y, fmtD x = some y ∧ (acc ++ y).length ≤ sizeLine ∧ wFs es (acc ++ y) G e S1 Q) : wFs (.cons a es) acc G e S Q := by simp only [wFs]; exact k
theorem F_tx {l y : List Nat} {Q : Str → Store → Prop} (h : l.length + y.length ≤ 1000000) (k : wFs es (tx (l ++ y)) G e S Q) : ∃ z, fmtD (.str (tx y)) = some z ∧ (tx l ++ z).length ≤ sizeLine ∧ wFs es (tx l ++ z) G e S Q :=
  ⟨tx y, rfl, by rw [tx_app, tx_len, List.length_append]; exact sz h, by rw [tx_app]; exact k⟩
theorem F_nat {l : List Nat} {n : Nat} {Q : Str → Store → Prop} (hn : n < 2 ^ 1000) (h : l.length + (TL.numL n).length ≤ 1000000) (k : wFs es (tx (l ++ TL.numL n)) G e S Q) : ∃ z, fmtD (.int (n : Nat)) = some z ∧ (tx l ++ z).length ≤ sizeLine ∧ wFs es (tx l ++ z) G e S Q :=
  ⟨tx (TL.numL n), by
    unfold fmtD
    simp only
    rw [if_pos (by have := log2_lt (n := n) (k := 1000) hn (by omega); simp only [Int.natAbs_natCast]; omega), tx_num], by rw [tx_app, tx_len, List.length_append]; exact sz h, by rw [tx_app]; exact k⟩
theorem A_str {z : Str} {P : Prop} (k : P) : (∃ a, D.str z = .str a) ∧ P := ⟨⟨z, rfl⟩, k⟩
theorem V_starts {a b : List Nat} (k : Q (.bl (b.isPrefixOf a)) S) : wSm .starts (.str (tx a)) [.str (tx b)] S Q := by
  show Q (.bl (Txt.startswith (tx a) (tx b))) S
  rw [tx_starts]; exact k
theorem V_ends {a b : List Nat} (k : Q (.bl (b.isSuffixOf a)) S) : wSm .ends (.str (tx a)) [.str (tx b)] S Q := by
  show Q (.bl (Txt.endswith (tx a) (tx b))) S
  rw [tx_ends]; exact k
theorem V_slS {z : List Nat} {lo hi : Option Int} (h : z.length ≤ 1000000) (k : Q (.str (tx ((z.drop (HT.sIx z.length 0 lo)).take (HT.sIx z.length z.length hi - HT.sIx z.length 0 lo)))) S) : wSl m (.str (tx z)) lo hi S Q := by
  show (tx z).length ≤ sizeLine ∧ Q (.str (cutS (tx z) lo hi)) S
  rw [tx_cut]
  exact ⟨by rw [tx_len]; exact sz h, k⟩
theorem V_ixS {z : List Nat} {i : Int} {c : Nat} (h : z.length ≤ 1000000) (h2 : atI z i = some c) (k : Q (.str (tx [c])) S) : wIx (.str (tx z)) (.int i) S Q :=
  ⟨by rw [tx_len]; exact sz h, c, h2, k⟩
theorem V_lenS {z : List Nat} (h : z.length ≤ 1000000) (k : Q (.int z.length) S) : wBi .len [.str (tx z)] S Q :=
  ⟨by rw [tx_len]; exact sz h, by rw [tx_len]; exact k⟩
theorem V_addX {a b : List Nat} (h : a.length + b.length ≤ 1000000) (k : Q (.str (tx (a ++ b))) S) : wBin m .Add (.str (tx a)) (.str (tx b)) S Q := by
  unfold wBin
  refine ⟨by rw [tx_len, tx_len]; exact sz h, ?_⟩
  rw [tx_app]; exact k
theorem V_inS {c : Nat} {z : List Nat} {P : Bool → Prop} (k : P (decide (c ∈ z))) : wCmp .In (.str (tx [c])) (.str (tx z)) S P := ⟨c, rfl, k⟩
theorem V_niS {c : Nat} {z : List Nat} {P : Bool → Prop} (k : P (!decide (c ∈ z))) : wCmp .NotIn (.str (tx [c])) (.str (tx z)) S P := ⟨c, rfl, k⟩
theorem V_eqX {a b : List Nat} {P : Bool → Prop} (k : P (decide (a = b))) : wCmp .Eq (.str (tx a)) (.str (tx b)) S P := by
  show P (decide (tx a = tx b))
  rw [tx_dec]; exact k
theorem V_neX {a b : List Nat} {P : Bool → Prop} (k : P (!decide (a = b))) : wCmp .NotEq (.str (tx a)) (.str (tx b)) S P := by
  show P (!decide (tx a = tx b))
  rw [tx_dec]; exact k
theorem V_intS {a : List Nat} (h : NumText.AllDigits a) (h0 : a ≠ []) (hl : a.length ≤ 640) (k : Q (.int (NumText.digitsVal a : Nat)) S) : wBi .int [.str (tx a)] S Q :=
  ⟨_, intText_digits (x := tx a) h h0 (by rw [tx_len]; omega), by rw [tx_len]; exact hl, k⟩
theorem V_strN {n : Nat} (h : n < 2 ^ 1000) (k : Q (.str (tx (TL.numL n))) S) : wBi .str [.int (n : Nat)] S Q := by
  refine ⟨by have := log2_lt (n := n) (k := 1000) h (by omega); simp only [Int.natAbs_natCast]; omega, ?_⟩
  rw [tx_num]; exact k
theorem V_insert {n : Nat} {i : Int} (h : S[n]? = some (.lst xs)) (h2 : xs.length < 1000000) (h3 : 0 ≤ i ∧ i < 2 ^ 62) (q : Q .non (S.set n (.lst (xs.take i.toNat ++ [d] ++ xs.drop i.toNat)))) : wMe .insert (.ref n) [.int i, d] S Q := ⟨xs, h, szl (by omega), h3.1, by omega, q⟩
theorem V_join0 {ls : List (List Nat)} (h : sqOf S x = some (ls.map fun l => .str (tx l))) (hl : (ls.map (·.length)).sum ≤ 1000000) (k : Q (.str (tx ls.flatten)) S) : wSm .join (.str (tx [])) [x] S Q := by
  refine ⟨_, ls.map tx, h, ?_, ?_, ?_⟩
  · clear h hl k
    induction ls with
    | nil => rfl
    | cons l ls ih => simp only [List.map_cons, strsOf, ih]; rfl
  · have e : (ls.map tx).map (·.length) = ls.map (·.length) := by rw [List.map_map]; exact List.map_congr_left fun l _ => tx_len l
    rw [e, tx_len]
    simp only [List.length_nil, Nat.mul_zero, Nat.add_zero]
    omega
  · have e : Txt.join (tx []) (ls.map tx) = tx ls.flatten := by
      refine TL.ext_tl ?_
      rw [TL.join_eq, TL.tl_join]
      clear h hl k
      show TL.joinL [] ((ls.map tx).map TL.tl) = ls.flatten
      have : (ls.map tx).map TL.tl = ls := by rw [List.map_map]; exact (List.map_congr_left fun l _ => rfl).trans (List.map_id _)
      rw [this]
      clear this
      induction ls with
      | nil => rfl
      | cons l ls ih =>
        cases ls with
        | nil => simp [TL.joinL]
        | cons l2 ls =>
          show l ++ ([] ++ TL.joinL [] (l2 :: ls)) = _
          rw [ih]; rfl
    rw [e]; exact k
theorem Ss_at {r : Ss} (k : wSs r G K e S) : wSs r G K e S := k
theorem Ss_nil (k : K.nx e S) : wSs .nil G K e S := by simp only [wSs]; exact k
theorem Ss_cons {s : St'} {r : Ss} (k : wS s G { K with nx := fun e1 S1 => wSs r G K e1 S1 } e S) : wSs (.cons s r) G K e S := by simp only [wSs]; exact k
/-! values -/
theorem B_bl {P : Bool → Prop} {b : Bool} (k : P b) : wB (.bl b) P := k
theorem V_add {i j : Int} (k : Q (.int (i + j)) S) : wBin m .Add (.int i) (.int j) S Q := by unfold wBin; exact k
theorem V_sub {i j : Int} (k : Q (.int (i - j)) S) : wBin m .Sub (.int i) (.int j) S Q := by unfold wBin; exact k
theorem V_mul {i j : Int} (h : mulOk i j) (k : Q (.int (i * j)) S) : wBin m .Mult (.int i) (.int j) S Q := by unfold wBin; exact ⟨h, k⟩
theorem V_div {i j : Int} (h : divOk j) (k : Q (.int (i / j)) S) : wBin m .FloorDiv (.int i) (.int j) S Q := by unfold wBin; exact ⟨h, k⟩
theorem V_mod {i j : Int} (h : 0 < j) (k : Q (.int (i % j)) S) : wBin m .Mod (.int i) (.int j) S Q := by unfold wBin; exact ⟨h, k⟩
theorem V_pow {i j : Int} (h : powOk i j) (k : Q (.int (i ^ j.toNat)) S) : wBin m .Pow (.int i) (.int j) S Q := by unfold wBin; exact ⟨h, k⟩
theorem V_addT {xs ys : List D} (h : xs.length + ys.length ≤ sizeLine) (k : Q (.tup (xs ++ ys)) S) : wBin m .Add (.tup xs) (.tup ys) S Q := by unfold wBin; exact ⟨h, k⟩
theorem V_addS {s t : Str} (h : s.length + t.length ≤ sizeLine) (k : Q (.str (s ++ t)) S) : wBin m .Add (.str s) (.str t) S Q := by unfold wBin; exact ⟨h, k⟩
theorem V_addL {xs ys : List D} (h : xs.length + ys.length ≤ sizeLine) (k : mkL m (xs ++ ys) S Q) : wBin m .Add (.lst xs) (.lst ys) S Q := by unfold wBin; exact ⟨xs, ys, rfl, rfl, h, k⟩
theorem V_mulT {k : Int} (h : xs ≠ [] ∧ 2 ≤ k ∧ k ≤ 1000 ∧ xs.length ≤ 1000) (q : Q (.tup (List.replicate k.toNat xs).flatten) S) : wBin m .Mult (.tup xs) (.int k) S Q := by unfold wBin; exact ⟨h.1, h.2.1, h.2.2.1, h.2.2.2, q⟩
theorem V_mulL {k : Int} (h : k.natAbs ≤ 1000 ∧ xs.length ≤ 1000) (q : mkL m (List.replicate k.toNat xs).flatten S Q) : wBin m .Mult (.lst xs) (.int k) S Q := by unfold wBin; exact ⟨xs, rfl, h.1, h.2, q⟩
theorem U_add {i j : Int} {Q : D → Prop} (k : Q (.int (i + j))) : wAug .Add (.int i) (.int j) Q := by unfold wAug; exact k
theorem U_sub {i j : Int} {Q : D → Prop} (k : Q (.int (i - j))) : wAug .Sub (.int i) (.int j) Q := by unfold wAug; exact k
theorem U_mul {i j : Int} {Q : D → Prop} (h : mulOk i j) (k : Q (.int (i * j))) : wAug .Mult (.int i) (.int j) Q := by unfold wAug; exact ⟨h, k⟩
variable {k : Bool → Prop}
theorem V_eqI {i j : Int} (q : k (decide (i = j))) : wCmp .Eq (.int i) (.int j) S k := q
theorem V_neI {i j : Int} (q : k (!decide (i = j))) : wCmp .NotEq (.int i) (.int j) S k := q
theorem V_eqS {i j : Str} (q : k (decide (i = j))) : wCmp .Eq (.str i) (.str j) S k := q
theorem V_neS {i j : Str} (q : k (!decide (i = j))) : wCmp .NotEq (.str i) (.str j) S k := q
theorem V_eqB {i j : Bool} (q : k (decide (i = j))) : wCmp .Eq (.bl i) (.bl j) S k := q
theorem V_neB {i j : Bool} (q : k (!decide (i = j))) : wCmp .NotEq (.bl i) (.bl j) S k := q
theorem V_lt {i j : Int} (q : k (decide (i < j))) : wCmp .Lt (.int i) (.int j) S k := q
theorem V_le {i j : Int} (q : k (decide (i ≤ j))) : wCmp .LtE (.int i) (.int j) S k := q
theorem V_gt {i j : Int} (q : k (decide (j < i))) : wCmp .Gt (.int i) (.int j) S k := q
theorem V_ge {i j : Int} (q : k (decide (j ≤ i))) : wCmp .GtE (.int i) (.int j) S k := q
theorem V_isB {i j : Bool} (q : k (decide (i = j))) : wCmp .Is (.bl i) (.bl j) S k := q
theorem V_isN (q : k (isNon x)) : wCmp .Is x .non S k := by cases x <;> exact q
theorem V_isNotN (q : k (!isNon x)) : wCmp .IsNot x .non S k := by cases x <;> exact q
theorem wEq_any {j : Bool → Prop} (h1 : okD (rd S x)) (h2 : okD (rd S y)) (q : j (PyData.eqv (toP (rd S x)) (toP (rd S y)))) : wEq x y S j := by
  unfold wEq
  split
  · rename_i xs
    have e : PyData.eqv (toP (.tup xs)) (toP (.tup [])) = xs.isEmpty := by
      show PyData.eqvAll (toPs xs) [] = _
      cases xs with
      | nil => rfl
      | cons _ _ => simp [toPs, PyData.eqvAll]
    rw [← e]; exact q
  · rename_i a b
    have e : (a == b) = decide (a = b) := by rw [Bool.eq_iff_iff]; simp
    simpa only [rd, toP, PyData.eqv, e] using q
  · rename_i a b
    have e : (a == b) = decide (a = b) := by rw [Bool.eq_iff_iff]; simp
    simpa only [rd, toP, PyData.eqv, e] using q
  · rename_i a b
    have e : (a == b) = decide (a = b) := by cases a <;> cases b <;> rfl
    simpa only [rd, toP, PyData.eqv, e] using q
  · exact ⟨h1, h2, q⟩
theorem V_eqD (h1 : okD (rd S x)) (h2 : okD (rd S y)) (q : k (PyData.eqv (toP (rd S x)) (toP (rd S y)))) : wCmp .Eq x y S k := wEq_any h1 h2 q
theorem V_neD (h1 : okD (rd S x)) (h2 : okD (rd S y)) (q : k (!PyData.eqv (toP (rd S x)) (toP (rd S y)))) : wCmp .NotEq x y S k := wEq_any (j := fun b => k (!b)) h1 h2 q
theorem V_neNil {cs : List Int} (h : rd S x = .lst (cs.map .int)) (q : k (!decide (cs = []))) : wCmp .NotEq x (.lst []) S k :=
  V_neD (by rw [h]; exact okD_ints cs) okD_nil (by rw [h, show rd S (.lst []) = .lst [] from rfl, eqv_nil]; exact q)
theorem V_eqNil {cs : List Int} (h : rd S x = .lst (cs.map .int)) (q : k (decide (cs = []))) : wCmp .Eq x (.lst []) S k :=
  V_eqD (by rw [h]; exact okD_ints cs) okD_nil (by rw [h, show rd S (.lst []) = .lst [] from rfl, eqv_nil]; exact q)
theorem V_neg {i : Int} (q : Q (.int (-i)) S) : wNeg (.int i) S Q := q
theorem V_ix {i : Int} (h : sqOf S x = some xs) (h2 : atI xs i = some d) (q : Q d S) : wIx x (.int i) S Q := (wIx_sq h).mpr ⟨d, h2, q⟩
theorem V_ixT {i : Int} (h2 : atI xs i = some d) (q : Q d S) : wIx (.tup xs) (.int i) S Q := V_ix rfl h2 q
theorem V_ixL {i : Int} (h2 : atI xs i = some d) (q : Q d S) : wIx (.lst xs) (.int i) S Q := V_ix rfl h2 q
theorem V_ixR {i : Int} (h2 : atI xs i = some d) (q : Q d S) : wIx (.rol xs) (.int i) S Q := V_ix rfl h2 q
theorem V_ix0 {i : Int} {U : Store} (h2 : atI xs i = some d) (q : Q d (.lst xs :: U)) : wIx (.ref 0) (.int i) (.lst xs :: U) Q := V_ix rfl h2 q
theorem V_ix1 {i : Int} {U : Store} {c : Cell} (h2 : atI xs i = some d) (q : Q d (c :: .lst xs :: U)) : wIx (.ref 1) (.int i) (c :: .lst xs :: U) Q := V_ix rfl h2 q
theorem A_someL {P : Prop} (q : P) : (lsOf S (.lst xs)).isSome = true ∧ P := ⟨rfl, q⟩
theorem A_some0 {U : Store} {P : Prop} (q : P) : (lsOf (.lst xs :: U) (.ref 0)).isSome = true ∧ P := ⟨rfl, q⟩
theorem A_some1 {U : Store} {c : Cell} {P : Prop} (q : P) : (lsOf (c :: .lst xs :: U) (.ref 1)).isSome = true ∧ P := ⟨rfl, q⟩
theorem V_abs {i : Int} (q : Q (.int (i.natAbs : Int)) S) : wBi .abs [.int i] S Q := q
theorem V_isqrt {i : Int} (h : isqrtOk i) (q : Q (.int (rt i)) S) : wBi .isqrt [.int i] S Q := ⟨h, q⟩
theorem V_max2 {i j : Int} (q : Q (.int (max i j)) S) : wBi .max2 [.int i, .int j] S Q := q
theorem V_max3 {i j l : Int} (q : Q (.int (max (max i j) l)) S) : wBi .max3 [.int i, .int j, .int l] S Q := q
theorem V_min2 {i j : Int} (q : Q (.int (min i j)) S) : wBi .min2 [.int i, .int j] S Q := q
theorem V_int {i : Int} (q : Q (.int i) S) : wBi .int [.int i] S Q := q
theorem V_intB {b : Bool} (q : Q (.int (if b then 1 else 0)) S) : wBi .int [.bl b] S Q := q
theorem V_len (h : sqOf S x = some xs) (q : Q (.int xs.length) S) : wBi .len [x] S Q := (wBi_len h).mpr q
theorem V_lenT (q : Q (.int xs.length) S) : wBi .len [.tup xs] S Q := V_len rfl q
theorem V_lenL (q : Q (.int xs.length) S) : wBi .len [.lst xs] S Q := V_len rfl q
theorem V_lenR (q : Q (.int xs.length) S) : wBi .len [.rol xs] S Q := V_len rfl q
theorem V_repr (h1 : okD (rd S x)) (h2 : shw (rd S x) = true) (h3 : wid (rd S x) ≤ sizeLine) (q : Q (.str (toP (rd S x)).shown) S) : wBi .repr [x] S Q := ⟨h1.x, h2, h3, q⟩
theorem V_reprX (h1 : okX (rd S x)) (h2 : shw (rd S x) = true) (h3 : wid (rd S x) ≤ sizeLine) (q : Q (.str (toP (rd S x)).shown) S) : wBi .repr [x] S Q := ⟨h1, h2, h3, q⟩
theorem V_strI {i : Int} (h : i.natAbs.log2 < 1920) (q : Q (.str (Str.ofString (toString i))) S) : wBi .str [.int i] S Q := ⟨h, q⟩
theorem V_eqT0 (q : k xs.isEmpty) : wCmp .Eq (.tup xs) (.tup []) S k := q
theorem V_neT0 (q : k (!xs.isEmpty)) : wCmp .NotEq (.tup xs) (.tup []) S k := q
theorem V_reprI {i : Int} (h : i.natAbs < 2 ^ 1000) (q : Q (.str (PyData.shown (.int i))) S) : wBi .repr [.int i] S Q := ⟨okD.x okD_int, shw_int h, wid_int, q⟩
theorem V_reprB {b : Bool} (q : Q (.str (PyData.shown (.bool b))) S) : wBi .repr [.bl b] S Q := ⟨okD.x okD_bl, shw_bl, wid_bl, q⟩
theorem V_tupT (q : Q (.tup xs) S) : wBi .tuple [.tup xs] S Q := q
theorem V_tup (h : lsOf S x = some xs) (q : Q (.tup xs) S) : wBi .tuple [x] S Q := by
  have e : wBi .tuple [x] S Q ↔ ∃ ds, lsOf S x = some ds ∧ Q (.tup ds) S := by
    cases x <;> first | exact Iff.rfl | (simp [lsOf, lsM] at h)
  rw [e]; exact ⟨xs, h, q⟩
theorem V_tupL (q : Q (.tup xs) S) : wBi .tuple [.lst xs] S Q := V_tup rfl q
theorem V_tupR (q : Q (.tup xs) S) : wBi .tuple [.rol xs] S Q := V_tup rfl q
theorem V_listT (q : mkL m xs S Q) : wBl m .list [.tup xs] S Q := ⟨xs, rfl, q⟩
theorem V_listL (q : mkL m xs S Q) : wBl m .list [.lst xs] S Q := ⟨xs, rfl, q⟩
theorem V_listR (q : mkL m xs S Q) : wBl m .list [.rol xs] S Q := ⟨xs, rfl, q⟩
theorem intsOf_map : ∀ ns : List Int, intsOf (ns.map .int) = some ns
  | [] => rfl
  | n :: r => by simp only [List.map_cons, intsOf, intsOf_map r]; rfl
theorem blsOf_map : ∀ ns : List Bool, blsOf (ns.map .bl) = some ns
  | [] => rfl
  | n :: r => by simp only [List.map_cons, blsOf, blsOf_map r]; rfl
theorem V_sum {ns : List Int} (h : sqOf S x = some (ns.map .int)) (q : Q (.int ns.sum) S) : wBi .sum [x] S Q := ⟨_, ns, h, intsOf_map ns, q⟩
theorem V_all {ns : List Bool} (h : sqOf S x = some (ns.map .bl)) (q : Q (.bl (ns.all id)) S) : wBi .all [x] S Q := ⟨_, ns, h, blsOf_map ns, q⟩
theorem V_any {ns : List Bool} (h : sqOf S x = some (ns.map .bl)) (q : Q (.bl (ns.any id)) S) : wBi .any [x] S Q := ⟨_, ns, h, blsOf_map ns, q⟩
theorem V_isi {t T : String} (h : tyD S x = some t) (q : Q (.bl (isB t T)) S) : wIsi T x S Q := ⟨t, h, q⟩
theorem V_lr1 {j : Int} (h : 0 ≤ j ∧ j ≤ 1000000) (q : mkL m (rngItems 0 j.toNat) S Q) : wLr m [.int j] S Q := ⟨h, q⟩
theorem V_lr2 {i j : Int} (h : -1000000 ≤ i ∧ i ≤ j ∧ j ≤ 1000000) (q : mkL m (rngItems i (j - i).toNat) S Q) : wLr m [.int i, .int j] S Q := ⟨h, q⟩
theorem V_list (h : sqOf S x = some ds) (q : mkL m ds S Q) : wBl m .list [x] S Q := ⟨ds, h, q⟩
theorem V_remove {n : Nat} {z : Int} {ns : List Int} (h : S[n]? = some (.lst (ns.map .int))) (h2 : z ∈ ns) (q : Q .non (S.set n (.lst ((ns.erase z).map .int)))) : wMe .remove (.ref n) [.int z] S Q := ⟨_, ns, h, intsOf_map ns, h2, q⟩
theorem V_extend {n : Nat} {ys : List D} (h : S[n]? = some (.lst xs)) (h2 : lsM S x = some ys) (h3 : xs.length + ys.length ≤ 1000000) (q : Q .non (S.set n (.lst (xs ++ ys)))) : wMe .extend (.ref n) [x] S Q := ⟨xs, ys, h, h2, sz h3, q⟩
theorem V_reverse {n : Nat} (h : S[n]? = some (.lst xs)) (q : Q .non (S.set n (.lst xs.reverse))) : wMe .reverse (.ref n) [] S Q := ⟨xs, h, q⟩
theorem V_clear {n : Nat} (h : S[n]? = some (.lst xs)) (q : Q .non (S.set n (.lst []))) : wMe .clear (.ref n) [] S Q := ⟨xs, h, q⟩
theorem V_popAt {n : Nat} {z : Int} (h : S[n]? = some (.lst xs)) (h0 : 0 ≤ z ∧ z < 2 ^ 62) (h2 : xs[z.toNat]? = some d) (q : Q d (S.set n (.lst (xs.eraseIdx z.toNat)))) : wMe .pop (.ref n) [.int z] S Q := by
  have hl := (List.getElem?_eq_some_iff.mp h2).1
  refine ⟨xs, z.toNat, d, h, by omega, by omega, ?_, h2, q⟩
  have e : (if z < 0 then z + (xs.length : Int) else z) = z := if_neg (by omega)
  unfold seqIndex?
  simp only [e]
  rw [if_pos (by simp; omega)]
theorem L_F (q : Q (.lst ds) S) : mkL false ds S Q := q
theorem L_T (q : Q (.ref S.length) (S ++ [.lst ds])) : mkL true ds S Q := q
theorem A_sz {n : Nat} {P : Prop} (h : n ≤ 1000000) (q : P) : n ≤ sizeLine ∧ P := ⟨sz h, q⟩
theorem A_some {α : Type} {v : Option α} {P : Prop} {z : α} (h : v = some z) (q : P) : v.isSome = true ∧ P := ⟨by rw [h]; rfl, q⟩
theorem V_append {n : Nat} (h : S[n]? = some (.lst xs)) (h2 : xs.length < 1000000) (q : Q .non (S.set n (.lst (xs ++ [d])))) : wMe .append (.ref n) [d] S Q := ⟨xs, h, szl (by omega), q⟩
theorem V_pop {n : Nat} (h : S[n]? = some (.lst xs)) (h2 : xs[xs.length - 1]? = some d) (q : Q d (S.set n (.lst xs.dropLast))) : wMe .pop (.ref n) [] S Q := ⟨xs, d, h, h2, q⟩
theorem V_set {n j : Nat} {z : Int} {Q : Store → Prop} (h : S[n]? = some (.lst xs)) (h2 : ixN xs.length z = some j) (q : Q (S.set n (.lst (xs.set j d)))) : wSet (.ref n) (.int z) d S Q := by
  unfold wSet
  simp only [h]
  exact ⟨j, h2, q⟩
theorem V_sl {lo hi : Option Int} (h : lsOf S x = some xs) (q : mkL m (cutD xs lo hi) S Q) : wSl m x lo hi S Q := by
  have e : wSl m x lo hi S Q ↔ ∃ xs, lsOf S x = some xs ∧ mkL m (cutD xs lo hi) S Q := by
    cases x <;> first | exact Iff.rfl | (simp [lsOf, lsM] at h)
  rw [e]; exact ⟨xs, h, q⟩
theorem V_slL {lo hi : Option Int} (q : mkL m (cutD xs lo hi) S Q) : wSl m (.lst xs) lo hi S Q := V_sl rfl q
theorem V_slR {lo hi : Option Int} (q : mkL m (cutD xs lo hi) S Q) : wSl m (.rol xs) lo hi S Q := V_sl rfl q
theorem V_rvL (q : mkL m xs.reverse S Q) : wRv m (.lst xs) S Q := ⟨xs, rfl, q⟩
theorem V_rvR (q : mkL m xs.reverse S Q) : wRv m (.rol xs) S Q := ⟨xs, rfl, q⟩
theorem V_slT {lo hi : Option Int} (q : Q (.tup (cutD xs lo hi)) S) : wSl m (.tup xs) lo hi S Q := q
theorem V_rv (h : lsOf S x = some xs) (q : mkL m xs.reverse S Q) : wRv m x S Q := ⟨xs, h, q⟩
theorem if_t {P R : Prop} (q : P) : if true = true then P else R := by rw [if_pos rfl]; exact q
theorem if_f {P R : Prop} (q : R) : if false = true then P else R := by rw [if_neg Bool.false_ne_true]; exact q
theorem if_nt {P R : Prop} (q : R) : if (!true) = true then P else R := if_f q
theorem if_nf {P R : Prop} (q : P) : if (!false) = true then P else R := if_t q
theorem divOk_of {j : Int} (h0 : 0 < j) (h1 : j < 2 ^ 62) : divOk j := ⟨h0, by
  have : j.natAbs < 2 ^ 62 := by omega
  have := log2_lt this (by omega)
  omega⟩
theorem isqrtOk_of {j : Int} (h0 : 0 ≤ j) (h1 : j < 2 ^ 1000) : isqrtOk j := ⟨h0, by
  have : j.toNat < 2 ^ 1000 := by omega
  have := log2_lt this (by omega)
  omega⟩
theorem mulOk_of {a b : Int} {k : Nat} (h : a.natAbs < 2 ^ k) (h2 : b.natAbs < 2 ^ k) (hk : 0 < k) (hk2 : k < 100000) : mulOk a b := by
  have := log2_lt h hk
  have := log2_lt h2 hk
  exact .inr (.inr (by omega))
theorem if_T {b : Bool} {P R : Prop} (h : b = true) (q : P) : if b = true then P else R := by rw [if_pos h]; exact q
theorem if_F {b : Bool} {P R : Prop} (h : b = false) (q : R) : if b = true then P else R := by rw [if_neg (by rw [h]; exact Bool.false_ne_true)]; exact q
theorem if_C {b : Bool} {P R : Prop} (h1 : b = true → P) (h2 : b = false → R) : if b = true then P else R := by
  cases b
  · simp only [Bool.false_eq_true, if_false]; exact h2 rfl
  · simp only [if_true]; exact h1 rfl
end
end M

set_option Elab.async false
set_option maxRecDepth 100000
set_option maxHeartbeats 16000000
/-! M21: loops and comprehensions over lists of typed things. -/
namespace M
open PySem L2
section
variable {G : Gam} {e : Env'} {S : Store} {Q : Post} {K : Dn} {elt : E} {t : Tg} {it : It} {c : Oe} {vs : List Nat} {m : Bool}
theorem E_lc (k : wIt it G e S fun src S1 => wLc G e m elt t c vs Q src S1) : wE (.lc m elt t it c vs) G e S Q := by simp only [wE]; exact k
theorem E_lcd {kd n : Nat} {ks : List Key} {ds : List D} (h : e[n]? = some (some (.dct ks ds))) (k : wLc G e m elt t c vs Q ⟨dItems kd ks ds, none⟩ S) : wE (.lcd m kd n elt t c vs) G e S Q := by simp only [wE, h]; exact ⟨ks, ds, rfl, k⟩
theorem E_dvl {o : E} (k : wE o G e S fun x S1 => ∃ ks ds, dcOf S1 x = some (ks, ds) ∧ mkL m ds S1 Q) : wE (.dvl m o) G e S Q := by simp only [wE]; exact k
theorem V_dvl {ks : List Key} {ds : List D} {x : D} (h : dcOf S x = some (ks, ds)) (q : mkL m ds S Q) : ∃ ks ds, dcOf S x = some (ks, ds) ∧ mkL m ds S Q := ⟨ks, ds, h, q⟩
theorem V_dvlV {ks : List Key} {ds : List D} (q : mkL m ds S Q) : ∃ ks' ds', dcOf S (.dct ks ds) = some (ks', ds') ∧ mkL m ds' S Q := ⟨ks, ds, rfl, q⟩
theorem get_inj {α : Type} {as : List α} {inj : α → D} {i : Nat} {x : D} (h : (as.map inj)[i]? = some x) : ∃ a, as[i]? = some a ∧ x = inj a := by
  rw [List.getElem?_map] at h
  cases q : as[i]? with
  | none => rw [q] at h; cases h
  | some a => rw [q] at h; cases h; exact ⟨a, rfl, rfl⟩
theorem lt_of_get {α : Type} {as : List α} {i : Nat} {a : α} (h : as[i]? = some a) : i < as.length := (List.getElem?_eq_some_iff.mp h).1
/-- by an invariant: the list so far, the store -/
theorem Lc_inv {α : Type} {as : List α} {inj : α → D} {own : Option Nat} (W : Nat → List D → Store → Prop) (hl : as.length ≤ 1000000) (h0 : W 0 [] S) (hok : ∀ i acc S2, W i acc S2 → Src.ok ⟨as.map inj, own⟩ S2)
    (hend : ∀ acc S2, W as.length acc S2 → mkL m acc S2 Q)
    (hstep : ∀ i a acc S2, as[i]? = some a → W i acc S2 → wTg t G.nox (inj a) (wipeD e vs) S2 fun e3 S3 => wT c G.nox e3 S3 fun b S4 => if b = true then wE elt G.nox e3 S4 fun d S5 => W (i + 1) (acc ++ [d]) S5 else W (i + 1) acc S4) :
    wLc G e m elt t c vs Q ⟨as.map inj, own⟩ S := by
  refine ⟨by simp only [List.length_map]; exact sz hl, fun i acc S2 => i ≤ as.length ∧ W i acc S2, ⟨Nat.zero_le _, h0⟩, fun i acc S2 h => ⟨hok i acc S2 h.2, by simpa using h.1, fun q => ?_, fun x hx => ?_⟩⟩
  · have q' : i = as.length := by simpa using q
    subst q'
    exact hend acc S2 h.2
  · obtain ⟨a, ha, rfl⟩ := get_inj hx
    have hi := lt_of_get ha
    have e1 : ∀ acc S, (i + 1 ≤ as.length ∧ W (i + 1) acc S) = W (i + 1) acc S := fun acc S => propext ⟨fun z => z.2, fun z => ⟨hi, z⟩⟩
    simp only [e1]
    exact hstep i a acc S2 ha h.2
/-- of values that are reckoned without a store -/
theorem Lc_map {α : Type} {as : List α} {inj : α → D} {own : Option Nat} (f : α → D) (hl : as.length ≤ 1000000) (hok : Src.ok ⟨as.map inj, own⟩ S)
    (hstep : ∀ a, a ∈ as → ∀ P : D → Store → Prop, P (f a) S → wTg t G.nox (inj a) (wipeD e vs) S fun e3 S3 => wE elt G.nox e3 S3 P)
    (hend : mkL m (as.map f) S Q) : wLc G e m elt t .no vs Q ⟨as.map inj, own⟩ S := by
  refine Lc_inv (fun i acc S2 => S2 = S ∧ acc = (as.take i).map f) hl ⟨rfl, rfl⟩ (fun i acc S2 h => h.1 ▸ hok) (fun acc S2 h => ?_) fun i a acc S2 ha h => ?_
  · obtain ⟨rfl, rfl⟩ := h
    rw [List.take_length]; exact hend
  · obtain ⟨rfl, rfl⟩ := h
    have := hstep a (List.mem_of_getElem? ha) (fun d S5 => S5 = S2 ∧ (as.take i).map f ++ [d] = (as.take (i + 1)).map f) ⟨rfl, by rw [List.take_add_one, ha]; simp⟩
    simp only [wT, if_true]
    exact this
/-- .. of those that pass -/
theorem Lc_filter {α : Type} {as : List α} {inj : α → D} {own : Option Nat} {ce : E} (p : α → Bool) (f : α → D) (hl : as.length ≤ 1000000) (hok : Src.ok ⟨as.map inj, own⟩ S)
    (hstep : ∀ a, a ∈ as → ∀ (P : D → Store → Prop) (R : Store → Prop), (p a = true → P (f a) S) → (p a = false → R S) → wTg t G.nox (inj a) (wipeD e vs) S fun e3 S3 => wE ce G.nox e3 S3 fun x S4 => wB x fun b => if b = true then wE elt G.nox e3 S4 P else R S4)
    (hend : mkL m ((as.filter p).map f) S Q) : wLc G e m elt t (.so ce) vs Q ⟨as.map inj, own⟩ S := by
  refine Lc_inv (fun i acc S2 => S2 = S ∧ acc = ((as.take i).filter p).map f) hl ⟨rfl, rfl⟩ (fun i acc S2 h => h.1 ▸ hok) (fun acc S2 h => ?_) fun i a acc S2 ha h => ?_
  · obtain ⟨rfl, rfl⟩ := h
    rw [List.take_length]; exact hend
  · obtain ⟨rfl, rfl⟩ := h
    have := hstep a (List.mem_of_getElem? ha) (fun d S5 => S5 = S2 ∧ ((as.take i).filter p).map f ++ [d] = ((as.take (i + 1)).filter p).map f) (fun S5 => S5 = S2 ∧ ((as.take i).filter p).map f = ((as.take (i + 1)).filter p).map f)
      (fun hp => ⟨rfl, by rw [List.take_add_one, ha]; simp [hp]⟩) (fun hp => ⟨rfl, by rw [List.take_add_one, ha]; simp [hp]⟩)
    simp only [wT]
    exact this
/-- a loop over typed things -/
theorem For_list {α : Type} {as : List α} {inj : α → D} {own : Option Nat} {tg : D → Env' → Store → (Env' → Store → Prop) → Prop} {body : Dn → Env' → Store → Prop} (W : Nat → Env' → Store → Prop) (h0 : W 0 e S) (hok : ∀ i e S, W i e S → Src.ok ⟨as.map inj, own⟩ S)
    (hend : ∀ e S, W as.length e S → K.nx e S)
    (hstep : ∀ i a e S, as[i]? = some a → W i e S → tg (inj a) e S fun e2 S2 => body { nx := W (i + 1), ct := W (i + 1), bk := K.nx, rt := K.rt } e2 S2) : wFor ⟨as.map inj, own⟩ tg body K e S :=
  wFor.mk (fun i e S => i ≤ as.length ∧ W i e S) ⟨Nat.zero_le _, h0⟩ (fun i e S h => hok i e S h.2) (fun i e S h => by simpa using h.1) (fun e S h => hend e S (by have := h.2; simpa using this)) fun i e S x h hx => by
    obtain ⟨a, ha, rfl⟩ := get_inj hx
    have hi := lt_of_get ha
    have := hstep i a e S ha h.2
    have e1 : (fun e S => i + 1 ≤ as.length ∧ W (i + 1) e S) = W (i + 1) := by
      funext e S
      exact propext ⟨fun z => z.2, fun z => ⟨hi, z⟩⟩
    show tg (inj a) e S fun e2 S2 => body { nx := fun e S => i + 1 ≤ as.length ∧ W (i + 1) e S, ct := fun e S => i + 1 ≤ as.length ∧ W (i + 1) e S, bk := K.nx, rt := K.rt } e2 S2
    rw [e1]; exact this
/-- .. where all turns find the same -/
theorem For_all {α : Type} {as : List α} {inj : α → D} {tg : D → Env' → Store → (Env' → Store → Prop) → Prop} {body : Dn → Env' → Store → Prop} (W : Env' → Store → Prop) (h0 : W e S)
    (hend : ∀ e S, W e S → K.nx e S)
    (hstep : ∀ a e S, a ∈ as → W e S → tg (inj a) e S fun e2 S2 => body { nx := W, ct := W, bk := K.nx, rt := K.rt } e2 S2) : wFor ⟨as.map inj, none⟩ tg body K e S :=
  For_list (fun _ => W) h0 (fun _ _ _ _ => trivial) hend fun i a e S ha h => hstep a e S (List.mem_of_getElem? ha) h
/-- .. over a written list -/
theorem For_items {ds : List D} {tg : D → Env' → Store → (Env' → Store → Prop) → Prop} {body : Dn → Env' → Store → Prop} (W : Env' → Store → Prop) (h0 : W e S)
    (hend : ∀ e S, W e S → K.nx e S)
    (hstep : ∀ d e S, d ∈ ds → W e S → tg d e S fun e2 S2 => body { nx := W, ct := W, bk := K.nx, rt := K.rt } e2 S2) : wFor ⟨ds, none⟩ tg body K e S := by
  have := For_all (as := ds) (inj := id) (tg := tg) (body := body) (K := K) W h0 hend hstep
  simpa using this
theorem For_rng {lo : Int} {n : Nat} {tg : D → Env' → Store → (Env' → Store → Prop) → Prop} {body : Dn → Env' → Store → Prop} (W : Env' → Store → Prop) (h0 : W e S)
    (hend : ∀ e S, W e S → K.nx e S)
    (hstep : ∀ i e S, i < n → W e S → tg (.int (lo + i)) e S fun e2 S2 => body { nx := W, ct := W, bk := K.nx, rt := K.rt } e2 S2) : wFor ⟨rngItems lo n, none⟩ tg body K e S :=
  wFor.rng (fun _ => W) h0 hend hstep
theorem rng_map (n : Nat) : rngItems 0 n = (List.range n).map fun i => D.int (i : Nat) := by simp [rngItems]
/-- a while, by a measure -/
theorem While_by {cc : Env' → Store → Post → Prop} {body : Dn → Env' → Store → Prop} (W : Nat → Env' → Store → Prop) {m0 : Nat} (h0 : W m0 e S)
    (h : ∀ m e S, W m e S → cc e S fun x S1 => wB x fun b => if b = true then body { nx := fun e' S' => ∃ m', m' < m ∧ W m' e' S', ct := fun e' S' => ∃ m', m' < m ∧ W m' e' S', bk := K.nx, rt := K.rt } e S1 else K.nx e S1) : wWhile cc body K e S := ⟨W, ⟨m0, h0⟩, h⟩
end
end M
namespace M
open PySem L2
/-! data that is compared -/
abbrev vec (v : List Int) : D := .tup (v.map .int)
theorem get_vec {n i : Nat} {u : List Int} (h : u.length = n) (hi : i < n) : (u.map D.int)[i]? = some (.int (u.getD i 0)) := by
  rw [List.getElem?_map, List.getD_eq_getElem?_getD, List.getElem?_eq_getElem (by omega)]; rfl
theorem Z_v2 {u v : List Int} {n : Nat} {Q : Src → Prop} (h1 : u.length = n) (h2 : v.length = n) (k : Q ⟨(List.range n).map fun i => .tup [.int (u.getD i 0), .int (v.getD i 0)], none⟩) : wZn [vec u, vec v] Q := by
  refine ⟨[u.map .int, v.map .int], n, rfl, by simp [h1, h2], ?_⟩
  have e : zipND n [u.map D.int, v.map D.int] = (List.range n).map fun i => D.tup [.int (u.getD i 0), .int (v.getD i 0)] := List.map_congr_left fun i hi => by
    have hi : i < n := by simpa using hi
    simp only [List.filterMap_cons, List.filterMap_nil, get_vec h1 hi, get_vec h2 hi]
  rw [e]; exact k
theorem Z_v4 {u v w x : List Int} {n : Nat} {Q : Src → Prop} (h1 : u.length = n) (h2 : v.length = n) (h3 : w.length = n) (h4 : x.length = n) (k : Q ⟨(List.range n).map fun i => .tup [.int (u.getD i 0), .int (v.getD i 0), .int (w.getD i 0), .int (x.getD i 0)], none⟩) : wZn [vec u, vec v, vec w, vec x] Q := by
  refine ⟨[u.map .int, v.map .int, w.map .int, x.map .int], n, rfl, by simp [h1, h2, h3, h4], ?_⟩
  have e : zipND n [u.map D.int, v.map D.int, w.map D.int, x.map D.int] = (List.range n).map fun i => D.tup [.int (u.getD i 0), .int (v.getD i 0), .int (w.getD i 0), .int (x.getD i 0)] := List.map_congr_left fun i hi => by
    have hi : i < n := by simpa using hi
    simp only [List.filterMap_cons, List.filterMap_nil, get_vec h1 hi, get_vec h2 hi, get_vec h3 hi, get_vec h4 hi]
  rw [e]; exact k
def dp (n : Nat) (d : D) : Prop := pd d = true ∧ (toP d).depth ≤ n
theorem dp.ok {n : Nat} {d : D} (h : dp n d) (hn : n ≤ 60 := by decide) : okD d := ⟨h.1, Nat.le_trans h.2 hn⟩
theorem dp_all {n : Nat} : ∀ {xs : List D}, (∀ x ∈ xs, dp n x) → pds xs = true ∧ PyData.depthAll (toPs xs) ≤ n
  | [], _ => ⟨rfl, by simp [toPs, PyData.depthAll]⟩
  | x :: xs, h => by
    obtain ⟨h1, h2⟩ := h x (by simp)
    obtain ⟨i1, i2⟩ := dp_all (xs := xs) fun y hy => h y (by simp [hy])
    refine ⟨by simp [pds, h1, i1], ?_⟩
    simp only [toPs, PyData.depthAll]
    omega
theorem dp_int {i : Int} : dp 1 (.int i) := ⟨rfl, by simp [toP, PyData.depth]⟩
theorem dp_bl {b : Bool} : dp 1 (.bl b) := ⟨rfl, by simp [toP, PyData.depth]⟩
theorem dp_non : dp 1 .non := ⟨rfl, by simp [toP, PyData.depth]⟩
theorem dp_str {s : Str} (h : PyData.strOk s = true) : dp 1 (.str s) := ⟨h, by simp [toP, PyData.depth]⟩
theorem dp_tup {n : Nat} {xs : List D} (h : ∀ x ∈ xs, dp n x) : dp (n + 1) (.tup xs) := by
  obtain ⟨h1, h2⟩ := dp_all h
  exact ⟨h1, by simp only [toP, PyData.depth]; omega⟩
theorem dp_lst {n : Nat} {xs : List D} (h : ∀ x ∈ xs, dp n x) : dp (n + 1) (.lst xs) := by
  obtain ⟨h1, h2⟩ := dp_all h
  exact ⟨h1, by simp only [toP, PyData.depth]; omega⟩
theorem dp_map {α : Type} {n : Nat} {inj : α → D} {as : List α} (h : ∀ a ∈ as, dp n (inj a)) : ∀ x ∈ as.map inj, dp n x := by
  intro x hx
  obtain ⟨a, ha, rfl⟩ := List.mem_map.mp hx
  exact h a ha
theorem dp_vec {v : List Int} : dp 2 (vec v) := dp_tup (dp_map fun _ _ => dp_int)
theorem dp_ints {v : List Int} : dp 2 (.lst (v.map .int)) := dp_lst (dp_map fun _ _ => dp_int)
theorem dp_bls {v : List Bool} : dp 2 (.lst (v.map .bl)) := dp_lst (dp_map fun _ _ => dp_bl)
theorem dp_vecs {vs : List (List Int)} : dp 3 (.lst (vs.map vec)) := dp_lst (dp_map fun _ _ => dp_vec)
theorem dp_vecT {vs : List (List Int)} : dp 3 (.tup (vs.map vec)) := dp_tup (dp_map fun _ _ => dp_vec)
/-- equal as data -/
def eqd (x y : D) : Bool := PyData.eqv (toP x) (toP y)
theorem eqd_int {i j : Int} : eqd (.int i) (.int j) = decide (i = j) := by
  simp only [eqd, toP, PyData.eqv]; rw [Bool.eq_iff_iff]; simp
theorem eqd_bl {i j : Bool} : eqd (.bl i) (.bl j) = decide (i = j) := by
  simp only [eqd, toP, PyData.eqv]; rw [Bool.eq_iff_iff]; simp
theorem eqd_str {i j : Str} : eqd (.str i) (.str j) = decide (i = j) := by
  simp only [eqd, toP, PyData.eqv]; rw [Bool.eq_iff_iff]; simp
theorem eqd_all {α : Type} [DecidableEq α] {inj : α → D} (h : ∀ a b, eqd (inj a) (inj b) = decide (a = b)) : ∀ as bs : List α, PyData.eqvAll (toPs (as.map inj)) (toPs (bs.map inj)) = decide (as = bs)
  | [], [] => by simp [toPs, PyData.eqvAll]
  | [], b :: bs => by simp [toPs, PyData.eqvAll]
  | a :: as, [] => by simp [toPs, PyData.eqvAll]
  | a :: as, b :: bs => by
    have h1 : PyData.eqv (toP (inj a)) (toP (inj b)) = decide (a = b) := h a b
    simp only [List.map_cons, toPs, PyData.eqvAll, h1, eqd_all h as bs]
    rw [Bool.eq_iff_iff]; simp
theorem eqd_lst {α : Type} [DecidableEq α] {inj : α → D} (h : ∀ a b, eqd (inj a) (inj b) = decide (a = b)) {as bs : List α} : eqd (.lst (as.map inj)) (.lst (bs.map inj)) = decide (as = bs) := by
  simp only [eqd, toP, PyData.eqv, eqd_all h]
theorem eqd_tup {α : Type} [DecidableEq α] {inj : α → D} (h : ∀ a b, eqd (inj a) (inj b) = decide (a = b)) {as bs : List α} : eqd (.tup (as.map inj)) (.tup (bs.map inj)) = decide (as = bs) := by
  simp only [eqd, toP, PyData.eqv, eqd_all h]
theorem eqd_vec {v w : List Int} : eqd (vec v) (vec w) = decide (v = w) := eqd_tup fun _ _ => eqd_int
section
variable {S : Store} {k : Bool → Prop} {x y d e : D} {n m : Nat}
/-- two values that are plain data -/
theorem V_eqP (h1 : rd S x = d) (h2 : rd S y = e) (o1 : dp n d) (o2 : dp m e) (q : k (eqd d e)) (hn : n ≤ 60 := by decide) (hm : m ≤ 60 := by decide) : wCmp .Eq x y S k := by
  subst h1 h2; exact V_eqD (o1.ok hn) (o2.ok hm) q
theorem V_neP (h1 : rd S x = d) (h2 : rd S y = e) (o1 : dp n d) (o2 : dp m e) (q : k (!eqd d e)) (hn : n ≤ 60 := by decide) (hm : m ≤ 60 := by decide) : wCmp .NotEq x y S k := by
  subst h1 h2; exact V_neD (o1.ok hn) (o2.ok hm) q
theorem V_eqV {v w : List Int} (q : k (decide (v = w))) : wCmp .Eq (vec v) (vec w) S k := V_eqP (d := vec v) (e := vec w) rfl rfl dp_vec dp_vec (by rw [eqd_vec]; exact q)
theorem V_neV {v w : List Int} (q : k (!decide (v = w))) : wCmp .NotEq (vec v) (vec w) S k := V_neP (d := vec v) (e := vec w) rfl rfl dp_vec dp_vec (by rw [eqd_vec]; exact q)
theorem V_eqIL {v w : List Int} (h1 : rd S x = .lst (v.map .int)) (h2 : rd S y = .lst (w.map .int)) (q : k (decide (v = w))) : wCmp .Eq x y S k := V_eqP h1 h2 dp_ints dp_ints (by rw [eqd_lst fun _ _ => eqd_int]; exact q)
theorem V_neIL {v w : List Int} (h1 : rd S x = .lst (v.map .int)) (h2 : rd S y = .lst (w.map .int)) (q : k (!decide (v = w))) : wCmp .NotEq x y S k := V_neP h1 h2 dp_ints dp_ints (by rw [eqd_lst fun _ _ => eqd_int]; exact q)
theorem V_eqBL {v w : List Bool} (h1 : rd S x = .lst (v.map .bl)) (h2 : rd S y = .lst (w.map .bl)) (q : k (decide (v = w))) : wCmp .Eq x y S k := V_eqP h1 h2 dp_bls dp_bls (by rw [eqd_lst fun _ _ => eqd_bl]; exact q)
theorem V_neBL {v w : List Bool} (h1 : rd S x = .lst (v.map .bl)) (h2 : rd S y = .lst (w.map .bl)) (q : k (!decide (v = w))) : wCmp .NotEq x y S k := V_neP h1 h2 dp_bls dp_bls (by rw [eqd_lst fun _ _ => eqd_bl]; exact q)
end
end M
namespace M
open PySem L2
/-! greatest, least, sorted integers -/
def maxL : List Int → Int
  | [] => 0
  | n :: r => r.foldl max n
def minL : List Int → Int
  | [] => 0
  | n :: r => r.foldl min n
theorem toPs_ints (ns : List Int) : toPs (ns.map .int) = ns.map PyData.int := by rw [toPs_map, List.map_map]; rfl
theorem alkD_ints (ns : List Int) : alkD (ns.map .int) := by
  unfold alkD PySem.W.AlikeAll
  rw [toPs_ints]
  refine ⟨fun x hx y hy => ?_, fun x hx => ?_⟩
  · obtain ⟨a, _, rfl⟩ := List.mem_map.mp hx
    obtain ⟨b, _, rfl⟩ := List.mem_map.mp hy
    rfl
  · obtain ⟨a, _, rfl⟩ := List.mem_map.mp hx
    intro z; cases z
theorem toP_int {e : D} {ns : List Int} {i : Int} (h : e ∈ ns.map D.int) (h2 : toP e = .int i) : e = .int i := by
  obtain ⟨a, _, rfl⟩ := List.mem_map.mp h
  simp only [toP] at h2
  cases h2; rfl
section
variable {S : Store} {Q : Post} {x y : D} {m : Bool}
theorem V_max {ns : List Int} (h : sqOf S x = some (ns.map .int)) (hn : ns ≠ []) (q : Q (.int (maxL ns)) S) : wBi .max [x] S Q := by
  cases ns with
  | nil => exact absurd rfl hn
  | cons n r =>
    refine ⟨.int n, r.map .int, h, okD_ints (n :: r), alkD_ints (n :: r), fun e he h2 => ?_⟩
    rw [toPs_ints, show toP (.int n) = .int n from rfl, PySem.W.maxD_ints] at h2
    rw [toP_int (ns := n :: r) he h2]; exact q
theorem V_min {ns : List Int} (h : sqOf S x = some (ns.map .int)) (hn : ns ≠ []) (q : Q (.int (minL ns)) S) : wBi .min [x] S Q := by
  cases ns with
  | nil => exact absurd rfl hn
  | cons n r =>
    refine ⟨.int n, r.map .int, h, okD_ints (n :: r), alkD_ints (n :: r), fun e he h2 => ?_⟩
    rw [toPs_ints, show toP (.int n) = .int n from rfl, PySem.W.minD_ints] at h2
    rw [toP_int (ns := n :: r) he h2]; exact q
theorem V_mxd0 {ns : List Int} (h : sqOf S x = some (ns.map .int)) (q : Q (.int (maxL ns)) S) : wMxd x (.int 0) S Q := by
  refine ⟨_, h, okD_ints ns, alkD_ints ns, fun e => ?_, fun d r e hd he h2 => ?_⟩
  · cases ns with
    | nil => exact q
    | cons _ _ => cases e
  · cases ns with
    | nil => cases hd
    | cons n r' =>
      simp only [List.map_cons, List.cons.injEq] at hd
      obtain ⟨rfl, rfl⟩ := hd
      rw [toPs_ints, show toP (.int n) = .int n from rfl, PySem.W.maxD_ints] at h2
      rw [toP_int (ns := n :: r') he h2]; exact q
end
theorem foldl_max_ge : ∀ (r : List Int) (n : Int), n ≤ r.foldl max n ∧ (∀ z ∈ r, z ≤ r.foldl max n) ∧ (r.foldl max n = n ∨ r.foldl max n ∈ r)
  | [], n => ⟨Int.le_refl _, by simp, .inl rfl⟩
  | a :: r, n => by
    obtain ⟨h1, h2, h3⟩ := foldl_max_ge r (max n a)
    simp only [List.foldl_cons]
    refine ⟨by omega, fun z hz => ?_, ?_⟩
    · rcases List.mem_cons.mp hz with q | q
      · subst q; omega
      · exact h2 z q
    · rcases h3 with q | q
      · rw [q]
        by_cases hc : n ≤ a
        · rw [show max n a = a by omega]; exact .inr (by simp)
        · exact .inl (by omega)
      · exact .inr (by simp [q])
theorem maxL_spec {ns : List Int} (h : ns ≠ []) : maxL ns ∈ ns ∧ ∀ z ∈ ns, z ≤ maxL ns := by
  cases ns with
  | nil => exact absurd rfl h
  | cons n r =>
    obtain ⟨h1, h2, h3⟩ := foldl_max_ge r n
    refine ⟨?_, fun z hz => ?_⟩
    · show r.foldl max n ∈ n :: r
      rcases h3 with q | q
      · rw [q]; simp
      · exact List.mem_cons_of_mem _ q
    · rcases List.mem_cons.mp hz with q | q
      · subst q; exact h1
      · exact h2 z q
theorem foldl_min_le : ∀ (r : List Int) (n : Int), r.foldl min n ≤ n ∧ (∀ z ∈ r, r.foldl min n ≤ z) ∧ (r.foldl min n = n ∨ r.foldl min n ∈ r)
  | [], n => ⟨Int.le_refl _, by simp, .inl rfl⟩
  | a :: r, n => by
    obtain ⟨h1, h2, h3⟩ := foldl_min_le r (min n a)
    simp only [List.foldl_cons]
    refine ⟨by omega, fun z hz => ?_, ?_⟩
    · rcases List.mem_cons.mp hz with q | q
      · subst q; omega
      · exact h2 z q
    · rcases h3 with q | q
      · rw [q]
        by_cases hc : n ≤ a
        · exact .inl (by omega)
        · rw [show min n a = a by omega]; exact .inr (by simp)
      · exact .inr (by simp [q])
theorem minL_spec {ns : List Int} (h : ns ≠ []) : minL ns ∈ ns ∧ ∀ z ∈ ns, minL ns ≤ z := by
  cases ns with
  | nil => exact absurd rfl h
  | cons n r =>
    obtain ⟨h1, h2, h3⟩ := foldl_min_le r n
    refine ⟨?_, fun z hz => ?_⟩
    · show r.foldl min n ∈ n :: r
      rcases h3 with q | q
      · rw [q]; simp
      · exact List.mem_cons_of_mem _ q
    · rcases List.mem_cons.mp hz with q | q
      · subst q; exact h1
      · exact h2 z q
theorem maxL_is {ns : List Int} {m : Int} (h : m ∈ ns) (h2 : ∀ z ∈ ns, z ≤ m) : maxL ns = m := by
  obtain ⟨a, b⟩ := maxL_spec (List.ne_nil_of_mem h)
  exact Int.le_antisymm (h2 _ a) (b _ h)
theorem minL_is {ns : List Int} {m : Int} (h : m ∈ ns) (h2 : ∀ z ∈ ns, m ≤ z) : minL ns = m := by
  obtain ⟨a, b⟩ := minL_spec (List.ne_nil_of_mem h)
  exact Int.le_antisymm (b _ h) (h2 _ a)
/-! zips of typed lists -/
theorem zip2_map {α β : Type} (f : α → D) (g : β → D) (as : List α) (bs : List β) : zip2D (as.map f) (bs.map g) = (as.zip bs).map fun p => .tup [f p.1, g p.2] := by
  unfold zip2D
  rw [List.zip_map, List.map_map]; rfl
theorem zip3_map {α β γ : Type} (f : α → D) (g : β → D) (h : γ → D) (as : List α) (bs : List β) (cs : List γ) : zip3D (as.map f) (bs.map g) (cs.map h) = (as.zip (bs.zip cs)).map fun p => .tup [f p.1, g p.2.1, h p.2.2] := by
  unfold zip3D
  rw [List.zip_map, List.zip_map, List.map_map]; rfl
theorem enu_map {α : Type} (f : α → D) (as : List α) : enuD (as.map f) = as.zipIdx.map fun p => .tup [.int (p.2 : Nat), f p.1] := by
  unfold enuD
  apply List.ext_getElem?
  intro i
  rw [List.getElem?_mapIdx, List.getElem?_map, List.getElem?_map, List.getElem?_zipIdx, Option.map_map, Option.map_map]
  simp only [Nat.zero_add]
  rfl
end M
namespace M
open PySem L2
/-! cells behind the heap -/
theorem GoodH.cell {T U S : Store} {c : Cell} (h : GoodH (T ++ c :: U) S) : S[T.length + 2]? = some c := by
  rw [h.at_, List.getElem?_append_right (Nat.le_refl _)]; simp
theorem GoodH.setc {T U S : Store} {c d : Cell} (h : GoodH (T ++ c :: U) S) : GoodH (T ++ d :: U) (S.set (T.length + 2) d) := by
  have := h.set (n := T.length) (c := d)
  rwa [List.set_append_right _ _ (Nat.le_refl _), Nat.sub_self] at this
theorem GoodH.pushN {T S : Store} {c : Cell} (h : GoodH T S) : GoodH (T ++ [c]) (S ++ [c]) := h.push
section
variable {S : Store} {k : Bool → Prop} {x : D} {ds : List D} {n : Nat}
theorem eqd_nil {ds : List D} : eqd (.lst ds) (.lst []) = decide (ds = []) := by
  cases ds with
  | nil => rfl
  | cons d r => simp [eqd, toP, toPs, PyData.eqv, PyData.eqvAll]
theorem V_eqE (h : rd S x = .lst ds) (o : dp n (.lst ds)) (q : k (decide (ds = []))) (hn : n ≤ 60 := by decide) : wCmp .Eq x (.lst []) S k :=
  V_eqP (e := .lst []) h rfl o (dp_lst (n := 0) (xs := []) (by simp)) (by rw [eqd_nil]; exact q) hn
theorem V_neE (h : rd S x = .lst ds) (o : dp n (.lst ds)) (q : k (!decide (ds = []))) (hn : n ≤ 60 := by decide) : wCmp .NotEq x (.lst []) S k :=
  V_neP (e := .lst []) h rfl o (dp_lst (n := 0) (xs := []) (by simp)) (by rw [eqd_nil]; exact q) hn
end
theorem rd_cell {S : Store} {n : Nat} {ds : List D} (h : S[n]? = some (.lst ds)) : rd S (.ref n) = .lst ds := by
  simp only [rd, h]
theorem sqOf_cell {S : Store} {n : Nat} {ds : List D} (h : S[n]? = some (.lst ds)) : sqOf S (.ref n) = some ds := by
  simp only [sqOf, lsOf, lsM, h]
theorem lsOf_cell {S : Store} {n : Nat} {ds : List D} (h : S[n]? = some (.lst ds)) : lsOf S (.ref n) = some ds := by
  simp only [lsOf, lsM, h]
end M
namespace M
open PySem L2
/-! items by place; what is shown -/
theorem atI_map {α : Type} {f : α → D} {as : List α} {i : Nat} {a : α} (h : as[i]? = some a) : atI (as.map f) (i : Int) = some (f a) := by
  rw [M.atI_nat, List.getElem?_map, h]; rfl
theorem atI_get {v : List Int} {i : Nat} (h : i < v.length) : atI (v.map D.int) (i : Int) = some (.int (v.getD i 0)) :=
  atI_map (by rw [List.getD_eq_getElem?_getD, List.getElem?_eq_getElem h]; rfl)
theorem atI_in {v : List Int} {p : Int} (h : 0 ≤ p ∧ p < v.length) : atI (v.map D.int) p = some (.int (v.getD p.toNat 0)) := by
  obtain ⟨j, rfl⟩ := Int.eq_ofNat_of_zero_le h.1
  exact atI_get (by omega)
theorem ixN_in {n : Nat} {p : Int} (h : 0 ≤ p ∧ p < n) : ixN n p = some p.toNat := by
  unfold ixN
  rw [if_pos h.1, if_pos h.2]
theorem shws_map {α : Type} {inj : α → D} : ∀ {as : List α}, (∀ a ∈ as, shw (inj a) = true) → shws (as.map inj) = true
  | [], _ => rfl
  | a :: r, h => by
    have h2 := shws_map (inj := inj) (as := r) fun b hb => h b (List.mem_cons_of_mem _ hb)
    simp only [List.map_cons, shws, h a List.mem_cons_self, h2, Bool.and_self]
theorem wids_map {α : Type} {inj : α → D} {b : Nat} : ∀ {as : List α}, (∀ a ∈ as, wid (inj a) ≤ b) → wids (as.map inj) ≤ as.length * (b + 2)
  | [], _ => by simp [wids]
  | a :: r, h => by
    have h1 := h a (by simp)
    have h2 := wids_map (as := r) (b := b) fun c hc => h c (by simp [hc])
    simp only [List.map_cons, wids, List.length_cons, Nat.add_mul, Nat.one_mul]
    omega
theorem wid_intB {i : Int} : wid (.int i) ≤ 2000 := Nat.le_refl _
theorem shw_vec {v : List Int} (h : ∀ z ∈ v, z.natAbs < 2 ^ 1000) : shw (vec v) = true := by
  simp only [shw]; exact shws_map fun z hz => shw_int (h z hz)
theorem wid_vec {v : List Int} : wid (vec v) ≤ v.length * 2002 + 3 := by
  simp only [wid]
  have := wids_map (inj := D.int) (b := 2000) (as := v) fun _ _ => wid_intB
  omega
section
variable {S : Store} {Q : Post}
theorem V_reprIL {ns : List Int} (h : ns.length ≤ 400) (h2 : ∀ z ∈ ns, z.natAbs < 2 ^ 1000) (q : Q (.str (PyData.shown (toP (.lst (ns.map .int))))) S) : wBi .repr [.lst (ns.map .int)] S Q := by
  refine V_repr (okD_ints ns) (by simp only [rd, shw]; exact shws_map fun z hz => shw_int (h2 z hz)) (sz ?_) q
  simp only [rd, wid]
  have := wids_map (inj := D.int) (b := 2000) (as := ns) fun _ _ => wid_intB
  omega
theorem V_reprV {ns : List Int} (h : ns.length ≤ 400) (h2 : ∀ z ∈ ns, z.natAbs < 2 ^ 1000) (q : Q (.str (PyData.shown (toP (vec ns)))) S) : wBi .repr [vec ns] S Q := by
  refine V_repr dp_vec.ok (shw_vec h2) (sz ?_) q
  have := wid_vec (v := ns)
  show wid (vec ns) ≤ _
  omega
theorem V_reprVL {vs : List (List Int)} (h : vs.length ≤ 40) (h1 : ∀ v ∈ vs, v.length ≤ 10) (h2 : ∀ v ∈ vs, ∀ z ∈ v, z.natAbs < 2 ^ 1000) (q : Q (.str (PyData.shown (toP (.lst (vs.map vec))))) S) : wBi .repr [.lst (vs.map vec)] S Q := by
  refine V_repr dp_vecs.ok (by simp only [rd, shw]; exact shws_map fun v hv => shw_vec (h2 v hv)) (sz ?_) q
  simp only [rd, wid]
  have := wids_map (inj := vec) (b := 20023) (as := vs) fun v hv => by
    have := wid_vec (v := v)
    have := h1 v hv
    omega
  omega
end
end M

set_option Elab.async false
set_option maxRecDepth 100000
set_option maxHeartbeats 16000000
/-! M22: pairs of integers, in order; what a selection finds. -/
namespace M
open PySem L2
abbrev pr (p : Int × Int) : D := .tup [.int p.1, .int p.2]
def lx (p q : Int × Int) : Prop := p.1 < q.1 ∨ (p.1 = q.1 ∧ p.2 ≤ q.2)
instance (p q : Int × Int) : Decidable (lx p q) := by unfold lx; infer_instance
theorem lx_refl (p : Int × Int) : lx p p := .inr ⟨rfl, Int.le_refl _⟩
theorem lx_trans {p q r : Int × Int} (h : lx p q) (g : lx q r) : lx p r := by unfold lx at *; omega
theorem lx_total (p q : Int × Int) : lx p q ∨ lx q p := by unfold lx; omega
theorem lx_anti {p q : Int × Int} (h : lx p q) (g : lx q p) : p = q := by
  unfold lx at *
  exact Prod.ext (by omega) (by omega)
def srtP (ps : List (Int × Int)) : List (Int × Int) := ps.mergeSort fun p q => decide (lx p q)
theorem srtP_perm {ps : List (Int × Int)} : (srtP ps).Perm ps := List.mergeSort_perm _ _
theorem srtP_sorted {ps : List (Int × Int)} : (srtP ps).Pairwise lx := by
  have := List.pairwise_mergeSort (le := fun p q => decide (lx p q)) (fun a b c h g => decide_eq_true (lx_trans (of_decide_eq_true h) (of_decide_eq_true g))) (fun a b => by
    rcases lx_total a b with h | h
    · simp [h]
    · simp [h]) ps
  exact this.imp fun h => of_decide_eq_true h
theorem srtP_is {ps qs : List (Int × Int)} (h : qs.Perm ps) (hs : qs.Pairwise lx) : srtP ps = qs :=
  List.Perm.eq_of_pairwise (fun a b _ _ => lx_anti) srtP_sorted hs (srtP_perm.trans h.symm)
theorem toP_pr (p : Int × Int) : toP (pr p) = .tuple [.int p.1, .int p.2] := rfl
theorem toPs_prs (ps : List (Int × Int)) : toPs (ps.map pr) = ps.map fun p => PyData.tuple [.int p.1, .int p.2] := by rw [toPs_map, List.map_map]; rfl
theorem okD_prs (ps : List (Int × Int)) : okD (.lst (ps.map pr)) := (dp_lst (n := 2) (dp_map fun (p : Int × Int) _ => dp_vec (v := [p.1, p.2]))).ok
theorem srtD_prs {ps : List (Int × Int)} : srtD (ps.map pr) = (srtP ps).map pr := by
  unfold srtD srtP
  rw [List.map_mergeSort (s := PySem.W.dataLe false toP)]
  intro a _ b _
  have := congrFun (congrFun (PySem.W.dataLe_ii (β := Int × Int) (·.1) (·.2)) a) b
  unfold lx
  rw [← this]; rfl
theorem alike_prs {p q : Int × Int} : PySem.W.alike (.tuple [.int p.1, .int p.2]) (.tuple [.int q.1, .int q.2]) = true := by simp [PySem.W.alike, PySem.W.alikeAll]
theorem sq_ls {S : Store} {x : D} {ds : List D} (h : lsOf S x = some ds) : sqOf S x = some ds := by
  cases x <;> first | exact h | (cases h; done)
theorem V_sortedP {S : Store} {Q : Post} {x : D} {m : Bool} {ps : List (Int × Int)} (h : lsOf S x = some (ps.map pr)) (q : mkL m ((srtP ps).map pr) S Q) : wBl m .sorted [x] S Q := by
  refine ⟨_, sq_ls h, okD_prs ps, ?_, .inl ?_, by rw [srtD_prs]; exact q⟩
  · rw [toPs_prs]
    intro a ha b hb
    obtain ⟨p, _, rfl⟩ := List.mem_map.mp ha
    obtain ⟨r, _, rfl⟩ := List.mem_map.mp hb
    exact alike_prs
  · rw [toPs_prs]
    intro a ha
    obtain ⟨p, _, rfl⟩ := List.mem_map.mp ha
    exact ⟨_, _, rfl⟩
/-- the first -/
theorem minD_prs : ∀ (ps : List (Int × Int)) (p : Int × Int), ∃ q, PySem.W.minD (.tuple [.int p.1, .int p.2]) (ps.map fun p => PyData.tuple [.int p.1, .int p.2]) = .tuple [.int q.1, .int q.2] ∧ q ∈ p :: ps ∧ ∀ r ∈ p :: ps, lx q r
  | [], p => ⟨p, rfl, by simp, by simp [lx_refl]⟩
  | a :: r, p => by
    unfold PySem.W.minD
    rw [List.map_cons, List.foldl_cons, PySem.W.dataLt_ii]
    by_cases h : a.1 < p.1 ∨ a.1 = p.1 ∧ a.2 < p.2
    · obtain ⟨q, e, m, l⟩ := minD_prs r a
      refine ⟨q, by simp only [h, decide_true, if_true]; exact e, List.mem_cons_of_mem _ m, fun z hz => ?_⟩
      rcases List.mem_cons.mp hz with c | c
      · subst c
        exact lx_trans (l a (by simp)) (by unfold lx; omega)
      · exact l z c
    · obtain ⟨q, e, m, l⟩ := minD_prs r p
      refine ⟨q, by simp only [h, decide_false]; exact e, ?_, fun z hz => ?_⟩
      · rcases List.mem_cons.mp m with c | c
        · subst c; simp
        · exact List.mem_cons_of_mem _ (List.mem_cons_of_mem _ c)
      · rcases List.mem_cons.mp hz with c | c
        · subst c; exact l z (by simp)
        · rcases List.mem_cons.mp c with c | c
          · subst c
            exact lx_trans (l p (by simp)) (by unfold lx; omega)
          · exact l z (List.mem_cons_of_mem _ c)
theorem V_minP {S : Store} {Q : Post} {x : D} {ps : List (Int × Int)} {q : Int × Int} (h : sqOf S x = some (ps.map pr)) (hm : q ∈ ps) (hl : ∀ r ∈ ps, lx q r) (k : Q (pr q) S) : wBi .min [x] S Q := by
  cases ps with
  | nil => cases hm
  | cons p r =>
    refine ⟨pr p, r.map pr, h, okD_prs (p :: r), ?_, fun e he h2 => ?_⟩
    · unfold alkD PySem.W.AlikeAll
      rw [← List.map_cons (f := pr), toPs_prs]
      refine ⟨fun x hx y hy => ?_, fun x hx => ?_⟩
      · obtain ⟨a, _, rfl⟩ := List.mem_map.mp hx
        obtain ⟨b, _, rfl⟩ := List.mem_map.mp hy
        exact alike_prs
      · obtain ⟨a, _, rfl⟩ := List.mem_map.mp hx
        intro z; cases z
    · obtain ⟨q2, e2, m2, l2⟩ := minD_prs r p
      rw [toPs_prs, toP_pr, e2] at h2
      rw [← List.map_cons (f := pr)] at he
      obtain ⟨a, ha, rfl⟩ := List.mem_map.mp he
      rw [toP_pr] at h2
      have e3 : a = q2 := by
        simp only [PyData.tuple.injEq, List.cons.injEq, PyData.int.injEq, and_true] at h2
        exact Prod.ext h2.1 h2.2
      have e4 : q = q2 := lx_anti (hl _ m2) (l2 _ hm)
      rw [e3, ← e4]; exact k
/-! a selection -/
def rangeI (n : Nat) : List Int := (List.range n).map fun (i : Nat) => (i : Int)
theorem rangeI_mem {n : Nat} {p : Int} : p ∈ rangeI n ↔ 0 ≤ p ∧ p < n := by
  simp only [rangeI, List.mem_map, List.mem_range]
  constructor
  · rintro ⟨i, hi, rfl⟩; omega
  · intro h; exact ⟨p.toNat, by omega, by omega⟩
theorem rangeI_up {n : Nat} : (rangeI n).Pairwise (· < ·) := by
  unfold rangeI
  rw [List.pairwise_map]
  exact List.pairwise_lt_range.imp fun h => by omega
/-- the place `a` comes before the place `b` -/
def bef (key : Int → Int) (a b : Int) : Prop := lx (key a, a) (key b, b)
/-- what a selection has found: `order`, what is left: `left` -/
def Sel (key : Int → Int) (n : Nat) (left order : List Int) : Prop :=
  (order ++ left).Perm (rangeI n) ∧ left.Pairwise (· < ·) ∧ (∀ o ∈ order, ∀ l ∈ left, bef key o l) ∧ order.Pairwise (bef key)
theorem Sel.start {key : Int → Int} {n : Nat} : Sel key n (rangeI n) [] := ⟨.refl _, rangeI_up, by simp, .nil⟩
theorem Sel.step {key : Int → Int} {n : Nat} {left order : List Int} {b : Int} (h : Sel key n left order) (hb : b ∈ left) (hm : ∀ l ∈ left, bef key b l) : Sel key n (left.erase b) (order ++ [b]) := by
  obtain ⟨h1, h2, h3, h4⟩ := h
  refine ⟨?_, h2.sublist List.erase_sublist, fun o ho l hl => ?_, ?_⟩
  · rw [List.append_assoc]
    exact ((List.perm_cons_erase hb).symm.append_left order).trans h1
  · rcases List.mem_append.mp ho with q | q
    · exact h3 o q l (List.mem_of_mem_erase hl)
    · simp at q; subst q; exact hm l (List.mem_of_mem_erase hl)
  · rw [List.pairwise_append]
    refine ⟨h4, by simp, fun o ho l hl => ?_⟩
    simp at hl; subst hl; exact h3 o ho l hb
theorem Sel.len {key : Int → Int} {n : Nat} {left order : List Int} (h : Sel key n left order) : order.length + left.length = n := by
  have := h.1.length_eq
  simpa [rangeI] using this
theorem Sel.done {key : Int → Int} {n : Nat} {order : List Int} (h : Sel key n [] order) : srtP ((rangeI n).map fun a => (key a, a)) = order.map fun a => (key a, a) := by
  obtain ⟨h1, h2, h3, h4⟩ := h
  rw [List.append_nil] at h1
  refine srtP_is (h1.map _) ?_
  rw [List.pairwise_map]
  exact h4
theorem Sel.mem {key : Int → Int} {n : Nat} {left order : List Int} (h : Sel key n left order) {l : Int} (hl : l ∈ left) : 0 ≤ l ∧ l < n := rangeI_mem.mp (h.1.mem_iff.mp (List.mem_append_right _ hl))
theorem Sel.memO {key : Int → Int} {n : Nat} {left order : List Int} (h : Sel key n left order) {l : Int} (hl : l ∈ order) : 0 ≤ l ∧ l < n := rangeI_mem.mp (h.1.mem_iff.mp (List.mem_append_left _ hl))
/-- the best of the first `i` of what is left -/
def Best (key : Int → Int) (left : List Int) (i : Nat) (b : Int) : Prop := (∃ j, left[j]? = some b ∧ (j < i ∨ j = 0)) ∧ ∀ l ∈ left.take i, bef key b l
theorem Best.start {key : Int → Int} {left : List Int} {b : Int} (h : left[0]? = some b) : Best key left 0 b := ⟨⟨0, h, .inr rfl⟩, by simp⟩
theorem Best.step {key : Int → Int} {left : List Int} {i : Nat} {a b : Int} (hp : left.Pairwise (· < ·)) (h : Best key left i b) (ha : left[i]? = some a) : Best key left (i + 1) (if key a < key b then a else b) := by
  obtain ⟨⟨j, hj, hi⟩, hl⟩ := h
  have le : b ≤ a := by
    have hj' : left[j]'(List.getElem?_eq_some_iff.mp hj).1 = b := (List.getElem?_eq_some_iff.mp hj).2
    have ha' : left[i]'(List.getElem?_eq_some_iff.mp ha).1 = a := (List.getElem?_eq_some_iff.mp ha).2
    by_cases e : j = i
    · subst e; rw [hj] at ha; cases ha; exact Int.le_refl _
    · have := List.pairwise_iff_getElem.mp hp j i (List.getElem?_eq_some_iff.mp hj).1 (List.getElem?_eq_some_iff.mp ha).1 (by omega)
      omega
  by_cases c : key a < key b
  · rw [if_pos c]
    refine ⟨⟨i, ha, .inl (by omega)⟩, fun l hm => ?_⟩
    rw [List.take_add_one, ha] at hm
    rcases List.mem_append.mp hm with q | q
    · have := hl l q
      unfold bef lx at *
      simp only at *
      omega
    · simp at q; subst q; exact lx_refl _
  · rw [if_neg c]
    refine ⟨⟨j, hj, by omega⟩, fun l hm => ?_⟩
    rw [List.take_add_one, ha] at hm
    rcases List.mem_append.mp hm with q | q
    · exact hl l q
    · simp at q; subst q
      unfold bef lx
      simp only
      omega
theorem Best.done {key : Int → Int} {left : List Int} {b : Int} (h : Best key left left.length b) : b ∈ left ∧ ∀ l ∈ left, bef key b l := by
  obtain ⟨⟨j, hj, _⟩, hl⟩ := h
  rw [List.take_length] at hl
  exact ⟨List.mem_of_getElem? hj, hl⟩
theorem Best.mem {key : Int → Int} {left : List Int} {i : Nat} {b : Int} (h : Best key left i b) : b ∈ left := List.mem_of_getElem? h.1.choose_spec.1
/-! two cells behind the heap -/
def lc (l : List Int) : Cell := .lst (l.map .int)
theorem GoodH.cell0 {T S : Store} {a b : Cell} (g : GoodH (T ++ [a, b]) S) : S[T.length + 2]? = some a := by
  rw [g.at_, List.getElem?_append_right (by omega)]; simp
theorem GoodH.cell1 {T S : Store} {a b : Cell} (g : GoodH (T ++ [a, b]) S) : S[T.length + 3]? = some b := by
  rw [show T.length + 3 = (T.length + 1) + 2 by omega, g.at_, List.getElem?_append_right (by omega)]; simp
theorem GoodH.set0 {T S : Store} {a b c : Cell} (g : GoodH (T ++ [a, b]) S) : GoodH (T ++ [c, b]) (S.set (T.length + 2) c) := by
  have := g.set (n := T.length) (c := c)
  rwa [List.set_append_right _ _ (by omega), Nat.sub_self] at this
theorem GoodH.set1 {T S : Store} {a b c : Cell} (g : GoodH (T ++ [a, b]) S) : GoodH (T ++ [a, c]) (S.set (T.length + 3) c) := by
  have := g.set (n := T.length + 1) (c := c)
  rwa [List.set_append_right _ _ (by omega), show T.length + 1 - T.length = 1 by omega] at this
/-! cuts, tuples of vectors, sorted integers -/
theorem cutTakeG {α : Type} (f : α → D) (as : List α) (k : Nat) : cutD (as.map f) none (some (k : Int)) = (as.take k).map f := by
  unfold cutD
  rw [HT.sIx_none, HT.sIx_nat, List.length_map, Nat.sub_zero, List.drop_zero, ← List.map_take]
  by_cases h : k ≤ as.length
  · rw [Nat.min_eq_left h]
  · rw [Nat.min_eq_right (by omega), List.take_of_length_le (Nat.le_refl _), List.take_of_length_le (by omega)]
theorem cutDropG {α : Type} (f : α → D) (as : List α) (k : Nat) : cutD (as.map f) (some (k : Int)) none = (as.drop k).map f := by
  unfold cutD
  rw [HT.sIx_none, HT.sIx_nat, List.length_map, ← List.map_drop, List.take_of_length_le (by simp)]
  by_cases h : k ≤ as.length
  · rw [Nat.min_eq_left h]
  · rw [Nat.min_eq_right (by omega), List.drop_of_length_le (Nat.le_refl _), List.drop_of_length_le (by omega)]
theorem cutAll (ds : List D) : cutD ds none none = ds := by
  unfold cutD
  rw [HT.sIx_none, HT.sIx_none, Nat.sub_zero, List.drop_zero]
  exact List.take_of_length_le (by simp)
theorem V_reprVT {S : Store} {Q : Post} {vs : List (List Int)} (b : Nat) (h : vs.length * (b * 2002 + 5) ≤ 900000) (h1 : ∀ v ∈ vs, v.length ≤ b) (h2 : ∀ v ∈ vs, ∀ z ∈ v, z.natAbs < 2 ^ 1000) (q : Q (.str (PyData.shown (toP (.tup (vs.map vec))))) S) : wBi .repr [.tup (vs.map vec)] S Q := by
  refine V_repr dp_vecT.ok (by simp only [rd, shw]; exact shws_map fun v hv => shw_vec (h2 v hv)) (sz ?_) q
  simp only [rd, wid]
  have := wids_map (inj := vec) (b := b * 2002 + 3) (as := vs) fun v hv => by
    have := wid_vec (v := v)
    have := Nat.mul_le_mul_right 2002 (h1 v hv)
    omega
  rw [show b * 2002 + 3 + 2 = b * 2002 + 5 by omega] at this
  omega
theorem V_eqVT {S : Store} {k : Bool → Prop} {vs ws : List (List Int)} (q : k (decide (vs = ws))) : wCmp .Eq (.tup (vs.map vec)) (.tup (ws.map vec)) S k :=
  V_eqP (d := .tup (vs.map vec)) (e := .tup (ws.map vec)) rfl rfl dp_vecT dp_vecT (by rw [eqd_tup fun _ _ => eqd_vec]; exact q)
theorem V_neVT {S : Store} {k : Bool → Prop} {vs ws : List (List Int)} (q : k (!decide (vs = ws))) : wCmp .NotEq (.tup (vs.map vec)) (.tup (ws.map vec)) S k :=
  V_neP (d := .tup (vs.map vec)) (e := .tup (ws.map vec)) rfl rfl dp_vecT dp_vecT (by rw [eqd_tup fun _ _ => eqd_vec]; exact q)
def srtI (ns : List Int) : List Int := ns.mergeSort fun a b => decide (a ≤ b)
theorem srtI_perm {ns : List Int} : (srtI ns).Perm ns := List.mergeSort_perm _ _
theorem srtI_up {ns : List Int} : (srtI ns).Pairwise (· ≤ ·) := by
  have := List.pairwise_mergeSort (le := fun (a b : Int) => decide (a ≤ b)) (fun a b c h g => decide_eq_true (Int.le_trans (of_decide_eq_true h) (of_decide_eq_true g))) (fun a b => by
    rcases Int.le_total a b with h | h <;> simp [h]) ns
  exact this.imp fun h => of_decide_eq_true h
theorem srtD_ints {ns : List Int} : srtD (ns.map .int) = (srtI ns).map .int := by
  unfold srtD srtI
  rw [List.map_mergeSort (s := PySem.W.dataLe false toP)]
  intro a _ b _
  have := congrFun (congrFun (PySem.W.dataLe_int (β := Int) id) a) b
  exact this.symm
theorem V_sortedI {S : Store} {Q : Post} {x : D} {m : Bool} {ns : List Int} (h : lsOf S x = some (ns.map .int)) (q : mkL m ((srtI ns).map .int) S Q) : wBl m .sorted [x] S Q := by
  refine ⟨_, sq_ls h, okD_ints ns, ?_, .inr ?_, by rw [srtD_ints]; exact q⟩
  · rw [toPs_ints]
    intro a ha b hb
    obtain ⟨p, _, rfl⟩ := List.mem_map.mp ha
    obtain ⟨r, _, rfl⟩ := List.mem_map.mp hb
    rfl
  · rw [toPs_ints]
    intro a ha
    obtain ⟨p, _, rfl⟩ := List.mem_map.mp ha
    exact ⟨by simp, by simp⟩
theorem srtI_first {ns : List Int} (h : ns ≠ []) : (srtI ns)[0]? = some (minL ns) := by
  obtain ⟨m1, m2⟩ := minL_spec h
  have hp := srtI_perm (ns := ns)
  have hs := srtI_up (ns := ns)
  cases e : srtI ns with
  | nil => rw [e] at hp; exact absurd hp.nil_eq.symm h
  | cons a r =>
    rw [e] at hp hs
    have ha : a ∈ ns := hp.mem_iff.mp (by simp)
    have hm : minL ns ∈ a :: r := hp.mem_iff.mpr m1
    have := m2 a ha
    have e2 : a = minL ns := by
      rcases List.mem_cons.mp hm with q | q
      · exact q.symm
      · have := (List.pairwise_cons.mp hs).1 _ q
        omega
    simp [e2]
theorem srtI_last {ns : List Int} (h : ns ≠ []) : atI ((srtI ns).map D.int) (-1) = some (.int (maxL ns)) := by
  obtain ⟨m1, m2⟩ := maxL_spec h
  have hp := srtI_perm (ns := ns)
  have hs := srtI_up (ns := ns)
  rcases List.eq_nil_or_concat (srtI ns) with e | ⟨r, a, e⟩
  · rw [e] at hp; exact absurd hp.nil_eq.symm h
  · have e : srtI ns = r ++ [a] := by simpa using e
    rw [e] at hp hs ⊢
    rw [List.map_append]
    have ha : a ∈ ns := hp.mem_iff.mp (by simp)
    have hm : maxL ns ∈ r ++ [a] := hp.mem_iff.mpr m1
    have := m2 a ha
    have e2 : a = maxL ns := by
      rcases List.mem_append.mp hm with q | q
      · have := (List.pairwise_append.mp hs).2.2 _ q a (by simp)
        omega
      · simp at q; exact q.symm
    rw [← e2]
    exact atI_end _ _
/-- texts in order -/
abbrev sD (l : List Nat) : D := .str (tx l)
def srtS (ls : List (List Nat)) : List (List Nat) := ls.mergeSort fun a b => decide (a ≤ b)
theorem srtS_perm {ls : List (List Nat)} : (srtS ls).Perm ls := List.mergeSort_perm _ _
theorem srtS_up {ls : List (List Nat)} : (srtS ls).Pairwise (· ≤ ·) := by
  have := List.pairwise_mergeSort (le := fun (a b : List Nat) => decide (a ≤ b)) (fun a b c h g => decide_eq_true (List.le_trans (of_decide_eq_true h) (of_decide_eq_true g))) (fun a b => by
    rcases List.le_total a b with h | h <;> simp [h]) ls
  exact this.imp fun h => of_decide_eq_true h
theorem srtS_of_perm {ls ms : List (List Nat)} (h : ls.Perm ms) : srtS ls = srtS ms :=
  List.Perm.eq_of_pairwise (fun a b _ _ h1 h2 => List.le_antisymm h1 h2) srtS_up srtS_up ((srtS_perm.trans h).trans srtS_perm.symm)
theorem srtI_of_perm {ls ms : List Int} (h : ls.Perm ms) : srtI ls = srtI ms :=
  List.Perm.eq_of_pairwise (fun a b _ _ h1 h2 => Int.le_antisymm h1 h2) srtI_up srtI_up ((srtI_perm.trans h).trans srtI_perm.symm)
theorem srtD_txs {ls : List (List Nat)} : srtD (ls.map sD) = (srtS ls).map sD := by
  unfold srtD srtS
  rw [List.map_mergeSort (s := PySem.W.dataLe false toP)]
  intro a _ b _
  have := congrFun (congrFun (PySem.W.dataLe_str (β := List Nat) tx) a) b
  exact this.symm
/-- its signs can be shown -/
def sgn (l : List Nat) : Prop := ∀ c ∈ l, c < 128
theorem sgn_app {a b : List Nat} (h : sgn a) (g : sgn b) : sgn (a ++ b) := fun c hc => by
  rcases List.mem_append.mp hc with q | q
  · exact h c q
  · exact g c q
theorem strOk_tx {l : List Nat} (h : sgn l) : PyData.strOk (tx l) = true := by
  unfold PyData.strOk
  rw [Array.all_eq_true_iff_forall_mem]
  intro c hc
  have := h c (by simpa [tx] using hc)
  simp only [decide_eq_true_eq]
  omega
theorem dp_tx {l : List Nat} (h : sgn l) : dp 1 (sD l) := dp_str (strOk_tx h)
theorem eqd_tx {a b : List Nat} : eqd (sD a) (sD b) = decide (a = b) := by
  show eqd (.str (tx a)) (.str (tx b)) = _
  rw [eqd_str, tx_dec]
theorem V_sortedS {S : Store} {Q : Post} {x : D} {m : Bool} {ls : List (List Nat)} (h : lsOf S x = some (ls.map sD)) (hs : ∀ l ∈ ls, sgn l) (q : mkL m ((srtS ls).map sD) S Q) : wBl m .sorted [x] S Q := by
  refine ⟨_, sq_ls h, (dp_lst (n := 1) (dp_map fun l hl => dp_tx (hs l hl))).ok, ?_, .inr ?_, by rw [srtD_txs]; exact q⟩
  · rw [toPs_map, List.map_map]
    intro a ha b hb
    obtain ⟨p, _, rfl⟩ := List.mem_map.mp ha
    obtain ⟨r, _, rfl⟩ := List.mem_map.mp hb
    rfl
  · rw [toPs_map, List.map_map]
    intro a ha
    obtain ⟨p, _, rfl⟩ := List.mem_map.mp ha
    exact ⟨by show toP (sD p) ≠ _; simp [sD, toP], fun xs => by show toP (sD p) ≠ _; simp [sD, toP]⟩
/-- written texts -/
theorem os_tx (s : String) : Str.ofString s = tx (s.toList.map Char.toNat) := by rw [Str.ofString_eq_toList]; rfl
theorem Src_tx {Q : Src → Prop} {S : Store} {l : List Nat} (k : Q ⟨l.map fun c => sD [c], none⟩) : srcOf (.str (tx l)) S Q := k
/-- cuts of texts -/
theorem sl_from (z : List Nat) (n : Nat) : (z.drop (HT.sIx z.length 0 (some (n : Int)))).take (HT.sIx z.length z.length none - HT.sIx z.length 0 (some (n : Int))) = z.drop n := by
  rw [HT.sIx_none, HT.sIx_nat]
  by_cases h : n ≤ z.length
  · rw [Nat.min_eq_left h, List.take_of_length_le (by simp)]
  · rw [Nat.min_eq_right (by omega), Nat.sub_self, List.take_zero, List.drop_of_length_le (by omega)]
theorem sl_1 (z : List Nat) : (z.drop (HT.sIx z.length 0 (some 1))).take (HT.sIx z.length z.length none - HT.sIx z.length 0 (some 1)) = z.drop 1 := sl_from z 1
theorem sl_to (z : List Nat) (n : Nat) : (z.drop (HT.sIx z.length 0 none)).take (HT.sIx z.length z.length (some (n : Int)) - HT.sIx z.length 0 none) = z.take n := by
  rw [HT.sIx_none, HT.sIx_nat, List.drop_zero, Nat.sub_zero]
  by_cases h : n ≤ z.length
  · rw [Nat.min_eq_left h]
  · rw [Nat.min_eq_right (by omega), List.take_of_length_le (Nat.le_refl _), List.take_of_length_le (by omega)]
theorem sl_back {k : Nat} (hk : 0 < k) (z : List Nat) : (z.drop (HT.sIx z.length 0 none)).take (HT.sIx z.length z.length (some (-(k : Int))) - HT.sIx z.length 0 none) = z.take (z.length - k) := by
  rw [HT.sIx_none, List.drop_zero, Nat.sub_zero]
  congr 1
  show (if (-(k : Int)) < 0 then ((-(k : Int)) + (z.length : Int)).toNat else _) = _
  rw [if_pos (by omega)]; omega
theorem sl_last {k : Nat} (hk : 0 < k) (z : List Nat) : (z.drop (HT.sIx z.length 0 (some (-(k : Int))))).take (HT.sIx z.length z.length none - HT.sIx z.length 0 (some (-(k : Int)))) = z.drop (z.length - k) := by
  have e : HT.sIx z.length 0 (some (-(k : Int))) = z.length - k := by
    show (if (-(k : Int)) < 0 then ((-(k : Int)) + (z.length : Int)).toNat else _) = _
    rw [if_pos (by omega)]; omega
  rw [HT.sIx_none, e, List.take_of_length_le (by simp)]
end M

set_option Elab.async false
set_option maxRecDepth 100000
set_option maxHeartbeats 16000000
namespace K77
open PySem L2 M
def prog : Program := PySem.Challenge.pw_nonearer_k77_whole_everything_near
def sAt (i : Nat) : Stmt := prog.main.body.getD i (.Pass ⟨0, 0, 0, 0⟩)
def glN : List Str := []
def btN : List Str := ["tuple", "zip", "abs", "max", "sum", "all", "any", "sorted", "int", "len", "list", "range", "repr"]
def imN : List (Str × String) := []
def glD : List D := []
def K_differences : Nat := 0
def K_part_of : Nat := 1
def K_joined_parts : Nat := 2
def K_distance : Nat := 3
def K_is_within : Nat := 4
def K_label_in : Nat := 5
def K_lets_by : Nat := 6
def K_passes : Nat := 7
def K_deed_key : Nat := 8
def K_passing_keys : Nat := 9
def K_pairs_from : Nat := 10
def K_within : Nat := 11
def K_put_pair : Nat := 12
def K_news_of : Nat := 13
def K_Nearby___init__ : Nat := 14
def K_Nearby_kept : Nat := 15
def K_Nearby_told : Nat := 16
def K_x_heap : Nat := 17
def K_x_draw : Nat := 18
def K_x_pick : Nat := 19
def K_x_far : Nat := 20
def K_x_passes : Nat := 21
def K_x_pairs : Nat := 22
def K_x_sieve : Nat := 23
def K_x_vector : Nat := 24
def K_x_item : Nat := 25
def K_x_question : Nat := 26
def K_x_start : Nat := 27
def K_x_deed : Nat := 28
def K_x_done : Nat := 29
def K_x_news : Nat := 30
def K_x_due : Nat := 31
def K_x_run : Nat := 32
def K_law : Nat := 33
abbrev p_differences : List Str := ["one", "other"]
abbrev t_differences : List (Nat × List Str) := []
abbrev n_differences : List Str := ["one", "other", "mine", "yours"]
abbrev e_differences_0 : E := (.bin false .Sub (.var 2) (.var 3))
abbrev i_differences : Ss := (.cons (.ret (.bi .tuple (.cons (.lc false e_differences_0 (.tp (.cons (.nm 2) (.cons (.nm 3) .nil))) (.zip (.var 0) (.var 1)) .no [2, 3]) .nil))) .nil)
abbrev s_differences : Stmt := sAt 1
abbrev p_part_of : List Str := ["kind", "difference"]
abbrev t_part_of : List (Nat × List Str) := []
abbrev n_part_of : List Str := ["kind", "difference"]
abbrev l_part_of_5 : Ss := (.cons (.ret (.bi .abs (.cons (.var 1) .nil))) .nil)
abbrev l_part_of_3 : Ss := (.cons (.ite (.cmp .Eq (.var 0) (.cst (.str "unlike"))) (.cons (.ret (.ite (.cmp .NotEq (.var 1) (.cst (.int 0))) (.cst (.int 1)) (.cst (.int 0)))) .nil) .nil) l_part_of_5)
abbrev i_part_of : Ss := (.cons (.ite (.cmp .Eq (.var 0) (.cst (.str "square"))) (.cons (.ret (.bin false .Mult (.var 1) (.var 1))) .nil) .nil) l_part_of_3)
abbrev s_part_of : Stmt := sAt 3
abbrev p_joined_parts : List Str := ["kind", "parts"]
abbrev t_joined_parts : List (Nat × List Str) := []
abbrev n_joined_parts : List Str := ["kind", "parts"]
abbrev i_joined_parts : Ss := (.cons (.ret (.ite (.cmp .Eq (.var 0) (.cst (.str "most"))) (.mxd (.var 1) (.cst (.int 0))) (.bi .sum (.cons (.var 1) .nil)))) .nil)
abbrev s_joined_parts : Stmt := sAt 4
abbrev p_distance : List Str := ["kind", "one", "other"]
abbrev t_distance : List (Nat × List Str) := []
abbrev n_distance : List Str := ["kind", "one", "other", "difference"]
abbrev e_distance_0 : E := (.call K_part_of (.cons (.var 0) (.cons (.var 3) .nil)))
abbrev i_distance : Ss := (.cons (.ret (.call K_joined_parts (.cons (.var 0) (.cons (.lc false e_distance_0 (.nm 3) (.seq (.call K_differences (.cons (.var 1) (.cons (.var 2) .nil)))) .no [3]) .nil)))) .nil)
abbrev s_distance : Stmt := sAt 5
abbrev p_is_within : List Str := ["kind", "one", "other", "reach"]
abbrev t_is_within : List (Nat × List Str) := []
abbrev n_is_within : List Str := ["kind", "one", "other", "reach", "total", "difference"]
abbrev l_is_within_4 : Ss := (.cons (.ite (.cmp .Gt (.var 4) (.var 3)) (.cons (.ret (.cst (.bl false))) .nil) .nil) .nil)
abbrev l_is_within_3 : Ss := (.cons (.asg (.nm 4) (.call K_joined_parts (.cons (.var 0) (.cons (.lst false (.cons (.var 4) (.cons (.call K_part_of (.cons (.var 0) (.cons (.var 5) .nil))) .nil))) .nil)))) l_is_within_4)
abbrev l_is_within_6 : Ss := (.cons (.ret (.cmp .LtE (.var 4) (.var 3))) .nil)
abbrev l_is_within_2 : Ss := (.cons (.for_ (.nm 5) (.seq (.call K_differences (.cons (.var 1) (.cons (.var 2) .nil)))) l_is_within_3) l_is_within_6)
abbrev i_is_within : Ss := (.cons (.asg (.nm 4) (.cst (.int 0))) l_is_within_2)
abbrev s_is_within : Stmt := sAt 6
abbrev p_label_in : List Str := ["labels", "name"]
abbrev t_label_in : List (Nat × List Str) := []
abbrev n_label_in : List Str := ["labels", "name", "other", "value"]
abbrev l_label_in_2 : Ss := (.cons (.ite (.cmp .Eq (.var 2) (.var 1)) (.cons (.ret (.var 3)) .nil) .nil) .nil)
abbrev l_label_in_4 : Ss := (.cons (.ret (.cst .non)) .nil)
abbrev i_label_in : Ss := (.cons (.for_ (.tp (.cons (.nm 2) (.cons (.nm 3) .nil))) (.seq (.var 0)) l_label_in_2) l_label_in_4)
abbrev s_label_in : Stmt := sAt 8
abbrev p_lets_by : List Str := ["sieve", "labels"]
abbrev t_lets_by : List (Nat × List Str) := []
abbrev n_lets_by : List Str := ["sieve", "labels", "value", "part"]
abbrev e_lets_by_0 : E := (.call K_lets_by (.cons (.var 3) (.cons (.var 1) .nil)))
abbrev e_lets_by_1 : E := (.call K_lets_by (.cons (.var 3) (.cons (.var 1) .nil)))
abbrev l_lets_by_10 : Ss := (.cons (.ret (.and (.cmp .IsNot (.var 2) (.cst .non)) (.or (.cmp .Eq (.ix (.var 0) (.cst (.int 0))) (.cst (.str "has"))) (.cmp2 .LtE .LtE (.ix (.var 0) (.cst (.int 2))) (.var 2) (.ix (.var 0) (.cst (.int 3))))))) .nil)
abbrev l_lets_by_9 : Ss := (.cons (.asg (.nm 2) (.call K_label_in (.cons (.var 1) (.cons (.ix (.var 0) (.cst (.int 1))) .nil)))) l_lets_by_10)
abbrev l_lets_by_7 : Ss := (.cons (.ite (.cmp .Eq (.ix (.var 0) (.cst (.int 0))) (.cst (.str "or"))) (.cons (.ret (.bi .any (.cons (.lc false e_lets_by_1 (.nm 3) (.seq (.sl false (.var 0) (.so (.cst (.int 1))) .no)) .no [3]) .nil))) .nil) .nil) l_lets_by_9)
abbrev l_lets_by_5 : Ss := (.cons (.ite (.cmp .Eq (.ix (.var 0) (.cst (.int 0))) (.cst (.str "and"))) (.cons (.ret (.bi .all (.cons (.lc false e_lets_by_0 (.nm 3) (.seq (.sl false (.var 0) (.so (.cst (.int 1))) .no)) .no [3]) .nil))) .nil) .nil) l_lets_by_7)
abbrev l_lets_by_3 : Ss := (.cons (.ite (.cmp .Eq (.ix (.var 0) (.cst (.int 0))) (.cst (.str "not"))) (.cons (.ret (.not (.call K_lets_by (.cons (.ix (.var 0) (.cst (.int 1))) (.cons (.var 1) .nil))))) .nil) .nil) l_lets_by_5)
abbrev i_lets_by : Ss := (.cons (.ite (.cmp .Eq (.ix (.var 0) (.cst (.int 0))) (.cst (.str "all"))) (.cons (.ret (.cst (.bl true))) .nil) .nil) l_lets_by_3)
abbrev s_lets_by : Stmt := sAt 10
abbrev p_passes : List Str := ["sieve", "item"]
abbrev t_passes : List (Nat × List Str) := []
abbrev n_passes : List Str := ["sieve", "item"]
abbrev i_passes : Ss := (.cons (.ret (.call K_lets_by (.cons (.var 0) (.cons (.ix (.var 1) (.cst (.int 2))) .nil)))) .nil)
abbrev s_passes : Stmt := sAt 11
abbrev p_deed_key : List Str := ["deed"]
abbrev t_deed_key : List (Nat × List Str) := []
abbrev n_deed_key : List Str := ["deed"]
abbrev i_deed_key : Ss := (.cons (.ret (.ite (.cmp .Eq (.ix (.var 0) (.cst (.int 0))) (.cst (.str "put"))) (.ix (.ix (.var 0) (.cst (.int 1))) (.cst (.int 0))) (.ix (.var 0) (.cst (.int 1))))) .nil)
abbrev s_deed_key : Stmt := sAt 13
abbrev p_passing_keys : List Str := ["state", "sieve"]
abbrev t_passing_keys : List (Nat × List Str) := []
abbrev n_passing_keys : List Str := ["state", "sieve", "key", "item"]
abbrev e_passing_keys_0 : E := (.call K_passes (.cons (.var 1) (.cons (.var 3) .nil)))
abbrev e_passing_keys_1 : E := (.var 2)
abbrev i_passing_keys : Ss := (.cons (.ret (.bi .tuple (.cons (.bl false .sorted (.cons (.lcd false 2 0 e_passing_keys_1 (.tp (.cons (.nm 2) (.cons (.nm 3) .nil))) (.so e_passing_keys_0) [2, 3]) .nil)) .nil))) .nil)
abbrev s_passing_keys : Stmt := sAt 15
abbrev p_pairs_from : List Str := ["state", "kind", "vector", "sieve"]
abbrev t_pairs_from : List (Nat × List Str) := []
abbrev n_pairs_from : List Str := ["state", "kind", "vector", "sieve", "keys", "key"]
abbrev e_pairs_from_0 : E := (.tup (.cons (.call K_distance (.cons (.var 1) (.cons (.var 2) (.cons (.ix (.ix (.var 0) (.var 5)) (.cst (.int 1))) .nil)))) (.cons (.var 5) .nil)))
abbrev l_pairs_from_2 : Ss := (.cons (.ret (.bi .tuple (.cons (.bl false .sorted (.cons (.lc false e_pairs_from_0 (.nm 5) (.seq (.var 4)) .no [5]) .nil)) .nil))) .nil)
abbrev i_pairs_from : Ss := (.cons (.asg (.nm 4) (.call K_passing_keys (.cons (.var 0) (.cons (.var 3) .nil)))) l_pairs_from_2)
abbrev s_pairs_from : Stmt := sAt 16
abbrev p_within : List Str := ["state", "kind", "vector", "reach", "sieve"]
abbrev t_within : List (Nat × List Str) := []
abbrev n_within : List Str := ["state", "kind", "vector", "reach", "sieve", "pair"]
abbrev e_within_0 : E := (.cmp .LtE (.ix (.var 5) (.cst (.int 0))) (.var 3))
abbrev e_within_1 : E := (.var 5)
abbrev i_within : Ss := (.cons (.ret (.bi .tuple (.cons (.lc false e_within_1 (.nm 5) (.seq (.call K_pairs_from (.cons (.var 0) (.cons (.var 1) (.cons (.var 2) (.cons (.var 4) .nil)))))) (.so e_within_0) [5]) .nil))) .nil)
abbrev s_within : Stmt := sAt 17
abbrev p_put_pair : List Str := ["kind", "vector", "sieve", "deed"]
abbrev t_put_pair : List (Nat × List Str) := []
abbrev n_put_pair : List Str := ["kind", "vector", "sieve", "deed"]
abbrev l_put_pair_3 : Ss := (.cons (.ret (.tup (.cons (.call K_distance (.cons (.var 0) (.cons (.var 1) (.cons (.ix (.ix (.var 3) (.cst (.int 1))) (.cst (.int 1))) .nil)))) (.cons (.ix (.ix (.var 3) (.cst (.int 1))) (.cst (.int 0))) .nil)))) .nil)
abbrev i_put_pair : Ss := (.cons (.ite (.or (.cmp .NotEq (.ix (.var 3) (.cst (.int 0))) (.cst (.str "put"))) (.not (.call K_passes (.cons (.var 2) (.cons (.ix (.var 3) (.cst (.int 1))) .nil))))) (.cons (.ret (.cst .non)) .nil) .nil) l_put_pair_3)
abbrev s_put_pair : Stmt := sAt 19
abbrev p_news_of : List Str := ["before", "after"]
abbrev t_news_of : List (Nat × List Str) := []
abbrev n_news_of : List Str := ["before", "after", "pair"]
abbrev e_news_of_0 : E := (.cmp .NotIn (.var 2) (.var 1))
abbrev e_news_of_1 : E := (.var 2)
abbrev e_news_of_2 : E := (.cmp .NotIn (.var 2) (.var 0))
abbrev e_news_of_3 : E := (.var 2)
abbrev i_news_of : Ss := (.cons (.ret (.tup (.cons (.bi .tuple (.cons (.lc false e_news_of_1 (.nm 2) (.seq (.var 0)) (.so e_news_of_0) [2]) .nil)) (.cons (.bi .tuple (.cons (.lc false e_news_of_3 (.nm 2) (.seq (.var 1)) (.so e_news_of_2) [2]) .nil)) .nil)))) .nil)
abbrev s_news_of : Stmt := sAt 20
abbrev p_Nearby___init__ : List Str := ["self", "state", "kind", "vector", "reach", "sieve"]
abbrev t_Nearby___init__ : List (Nat × List Str) := [(1, ["sieve", "reach", "vector", "kind", "state"])]
abbrev n_Nearby___init__ : List Str := ["self", "state", "kind", "vector", "reach", "sieve"]
abbrev l_Nearby___init___5 : Ss := (.cons (.asg (.at_ (.var 0) "all_pairs" ["Nearby"]) (.call K_within (.cons (.var 1) (.cons (.var 2) (.cons (.var 3) (.cons (.var 4) (.cons (.var 5) .nil))))))) .nil)
abbrev l_Nearby___init___4 : Ss := (.cons (.asg (.at_ (.var 0) "sieve" ["Nearby"]) (.var 5)) l_Nearby___init___5)
abbrev l_Nearby___init___3 : Ss := (.cons (.asg (.at_ (.var 0) "reach" ["Nearby"]) (.var 4)) l_Nearby___init___4)
abbrev l_Nearby___init___2 : Ss := (.cons (.asg (.at_ (.var 0) "vector" ["Nearby"]) (.var 3)) l_Nearby___init___3)
abbrev i_Nearby___init__ : Ss := (.cons (.asg (.at_ (.var 0) "kind" ["Nearby"]) (.var 2)) l_Nearby___init___2)
abbrev s_Nearby___init__ : Stmt := (clsBody (sAt 21)).getD 0 (.Pass ⟨0, 0, 0, 0⟩)
abbrev p_Nearby_kept : List Str := ["self"]
abbrev t_Nearby_kept : List (Nat × List Str) := []
abbrev n_Nearby_kept : List Str := ["self"]
abbrev i_Nearby_kept : Ss := (.cons (.ret (.fld (.var 0) "all_pairs" ["Nearby"])) .nil)
abbrev s_Nearby_kept : Stmt := (clsBody (sAt 21)).getD 1 (.Pass ⟨0, 0, 0, 0⟩)
abbrev p_Nearby_told : List Str := ["self", "deed"]
abbrev t_Nearby_told : List (Nat × List Str) := [(1, ["deed"])]
abbrev n_Nearby_told : List Str := ["self", "deed", "before", "key", "pairs", "pair"]
abbrev e_Nearby_told_0 : E := (.cmp .NotEq (.ix (.var 5) (.cst (.int 1))) (.var 3))
abbrev e_Nearby_told_1 : E := (.var 5)
abbrev l_Nearby_told_5 : Ss := (.cons (.asg (.nm 4) (.ite (.cmp .Is (.var 5) (.cst .non)) (.var 4) (.bin false .Add (.var 4) (.lst false (.cons (.var 5) .nil))))) .nil)
abbrev l_Nearby_told_7 : Ss := (.cons (.ret (.call K_news_of (.cons (.var 2) (.cons (.fld (.var 0) "all_pairs" ["Nearby"]) .nil)))) .nil)
abbrev l_Nearby_told_6 : Ss := (.cons (.asg (.at_ (.var 0) "all_pairs" ["Nearby"]) (.bi .tuple (.cons (.bl false .sorted (.cons (.var 4) .nil)) .nil))) l_Nearby_told_7)
abbrev l_Nearby_told_3 : Ss := (.cons (.ite (.and (.cmp .Eq (.ix (.var 1) (.cst (.int 0))) (.cst (.str "put"))) (.call K_is_within (.cons (.fld (.var 0) "kind" ["Nearby"]) (.cons (.fld (.var 0) "vector" ["Nearby"]) (.cons (.ix (.ix (.var 1) (.cst (.int 1))) (.cst (.int 1))) (.cons (.fld (.var 0) "reach" ["Nearby"]) .nil)))))) (.cons (.asg (.nm 5) (.call K_put_pair (.cons (.fld (.var 0) "kind" ["Nearby"]) (.cons (.fld (.var 0) "vector" ["Nearby"]) (.cons (.fld (.var 0) "sieve" ["Nearby"]) (.cons (.var 1) .nil)))))) l_Nearby_told_5) .nil) l_Nearby_told_6)
abbrev l_Nearby_told_2 : Ss := (.cons (.asg (.nm 4) (.lc false e_Nearby_told_1 (.nm 5) (.seq (.var 2)) (.so e_Nearby_told_0) [5])) l_Nearby_told_3)
abbrev i_Nearby_told : Ss := (.cons (.par (.cons (.nm 2) (.cons (.nm 3) .nil)) (.cons (.fld (.var 0) "all_pairs" ["Nearby"]) (.cons (.call K_deed_key (.cons (.var 1) .nil)) .nil))) l_Nearby_told_2)
abbrev s_Nearby_told : Stmt := (clsBody (sAt 21)).getD 2 (.Pass ⟨0, 0, 0, 0⟩)
abbrev p_x_heap : List Str := ["_law_script"]
abbrev t_x_heap : List (Nat × List Str) := []
abbrev n_x_heap : List Str := ["_law_script", "_law_cells", "_law_stir", "_law_cell"]
abbrev e_x_heap_0 : E := (.bin false .Add (.bin false .Mult (.cst (.int 2)) (.bi .abs (.cons (.var 3) .nil))) (.bi .int (.cons (.cmp .Lt (.var 3) (.cst (.int 0))) .nil)))
abbrev l_x_heap_3 : Ss := (.cons (.asg (.nm 2) (.bin false .Mod (.bi .int (.cons (.bin false .Add (.bin false .Add (.bin false .Mult (.var 2) (.cst (.int 48271))) (.bin false .Mod (.bi .int (.cons (.var 3) .nil)) (.cst (.int 2147483563)))) (.cst (.int 79))) .nil)) (.cst (.int 2147483647)))) .nil)
abbrev e_x_heap_1 : E := (.cmp .GtE (.var 3) (.bin false .Pow (.cst (.int 10)) (.cst (.int 18))))
abbrev e_x_heap_2 : E := (.var 3)
abbrev l_x_heap_4 : Ss := (.cons (.ret (.lst true (.cons (.rv true (.lc false e_x_heap_2 (.nm 3) (.seq (.var 1)) (.so e_x_heap_1) [3])) (.cons (.var 2) .nil)))) .nil)
abbrev l_x_heap_2 : Ss := (.cons (.for_ (.nm 3) (.seq (.var 1)) l_x_heap_3) l_x_heap_4)
abbrev i_x_heap : Ss := (.cons (.par (.cons (.nm 1) (.cons (.nm 2) .nil)) (.cons (.lc false e_x_heap_0 (.nm 3) (.seq (.sl false (.var 0) .no (.so (.cst (.int 60))))) .no [3]) (.cons (.cst (.int 23411)) .nil))) l_x_heap_2)
abbrev s_x_heap : Stmt := sAt 23
abbrev p_x_draw : List Str := ["_law_heap_here", "_law_many"]
abbrev t_x_draw : List (Nat × List Str) := []
abbrev n_x_draw : List Str := ["_law_heap_here", "_law_many", "_law_rest"]
abbrev e_x_draw_0 : E := (.and (.cmp .NotEq (.ix (.var 0) (.cst (.int 0))) (.lst false .nil)) (.cmp .Eq (.ix (.ix (.var 0) (.cst (.int 0))) (.neg (.cst (.int 1)))) (.cst (.int 0))))
abbrev l_x_draw_2 : Ss := (.cons (.ex (.me .pop (.ix (.var 0) (.cst (.int 0))) .nil)) .nil)
abbrev l_x_draw_6 : Ss := (.cons (.ret (.bin false .Mod (.bi .int (.cons (.var 2) .nil)) (.var 1))) .nil)
abbrev l_x_draw_5 : Ss := (.cons (.ex (.me .append (.ix (.var 0) (.cst (.int 0))) (.cons (.bin false .FloorDiv (.var 2) (.var 1)) .nil))) l_x_draw_6)
abbrev l_x_draw_8 : Ss := (.cons (.ret (.bin false .Mod (.bi .int (.cons (.bin false .FloorDiv (.ix (.var 0) (.cst (.int 1))) (.cst (.int 32))) .nil)) (.var 1))) .nil)
abbrev l_x_draw_7 : Ss := (.cons (.asg (.ix (.var 0) (.cst (.int 1))) (.bin false .Mod (.bi .int (.cons (.bin false .Add (.bin false .Mult (.ix (.var 0) (.cst (.int 1))) (.cst (.int 69621))) (.cst (.int 97))) .nil)) (.cst (.int 2147483647)))) l_x_draw_8)
abbrev l_x_draw_3 : Ss := (.cons (.ite (.cmp .NotEq (.ix (.var 0) (.cst (.int 0))) (.lst false .nil)) (.cons (.asg (.nm 2) (.me .pop (.ix (.var 0) (.cst (.int 0))) .nil)) l_x_draw_5) .nil) l_x_draw_7)
abbrev i_x_draw : Ss := (.cons (.whl e_x_draw_0 l_x_draw_2) l_x_draw_3)
abbrev s_x_draw : Stmt := sAt 24
abbrev p_x_pick : List Str := ["_law_heap_here", "_law_some"]
abbrev t_x_pick : List (Nat × List Str) := []
abbrev n_x_pick : List Str := ["_law_heap_here", "_law_some"]
abbrev i_x_pick : Ss := (.cons (.ret (.ix (.var 1) (.call K_x_draw (.cons (.var 0) (.cons (.bi .len (.cons (.var 1) .nil)) .nil))))) .nil)
abbrev s_x_pick : Stmt := sAt 25
abbrev p_x_far : List Str := ["_law_kind", "_law_one", "_law_other"]
abbrev t_x_far : List (Nat × List Str) := []
abbrev n_x_far : List Str := ["_law_kind", "_law_one", "_law_other", "_law_parts", "_law_mine", "_law_yours", "_law_part"]
abbrev e_x_far_0 : E := (.bi .abs (.cons (.bin false .Sub (.var 4) (.var 5)) .nil))
abbrev e_x_far_1 : E := (.bin false .Mult (.var 6) (.var 6))
abbrev e_x_far_2 : E := (.cmp .Gt (.var 6) (.cst (.int 0)))
abbrev e_x_far_3 : E := (.var 6)
abbrev l_x_far_6 : Ss := (.cons (.ret (.ite (.cmp .Eq (.var 0) (.cst (.str "sum"))) (.bi .sum (.cons (.var 3) .nil)) (.bi .max (.cons (.var 3) .nil)))) .nil)
abbrev l_x_far_4 : Ss := (.cons (.ite (.cmp .Eq (.var 0) (.cst (.str "unlike"))) (.cons (.ret (.bi .len (.cons (.lc false e_x_far_3 (.nm 6) (.seq (.var 3)) (.so e_x_far_2) [6]) .nil))) .nil) .nil) l_x_far_6)
abbrev l_x_far_2 : Ss := (.cons (.ite (.cmp .Eq (.var 0) (.cst (.str "square"))) (.cons (.ret (.bi .sum (.cons (.lc false e_x_far_1 (.nm 6) (.seq (.var 3)) .no [6]) .nil))) .nil) .nil) l_x_far_4)
abbrev i_x_far : Ss := (.cons (.asg (.nm 3) (.lc false e_x_far_0 (.tp (.cons (.nm 4) (.cons (.nm 5) .nil))) (.zip (.var 1) (.var 2)) .no [4, 5])) l_x_far_2)
abbrev s_x_far : Stmt := sAt 26
abbrev p_x_passes : List Str := ["_law_sieve_here", "_law_item_here"]
abbrev t_x_passes : List (Nat × List Str) := []
abbrev n_x_passes : List Str := ["_law_sieve_here", "_law_item_here", "_law_word", "_law_name", "_law_value", "_law_part"]
abbrev e_x_passes_0 : E := (.cmp .Eq (.var 3) (.ix (.var 0) (.cst (.int 1))))
abbrev e_x_passes_1 : E := (.and (.cmp .Eq (.var 3) (.ix (.var 0) (.cst (.int 1)))) (.cmp2 .LtE .LtE (.ix (.var 0) (.cst (.int 2))) (.var 4) (.ix (.var 0) (.cst (.int 3)))))
abbrev e_x_passes_2 : E := (.call K_x_passes (.cons (.var 5) (.cons (.var 1) .nil)))
abbrev e_x_passes_3 : E := (.call K_x_passes (.cons (.var 5) (.cons (.var 1) .nil)))
abbrev e_x_passes_4 : E := (.call K_x_passes (.cons (.var 5) (.cons (.var 1) .nil)))
abbrev l_x_passes_10 : Ss := (.cons (.ret (.or (.cmp .Eq (.var 2) (.cst (.str "all"))) (.bi .any (.cons (.lc false e_x_passes_4 (.nm 5) (.seq (.sl false (.var 0) (.so (.cst (.int 1))) .no)) .no [5]) .nil)))) .nil)
abbrev l_x_passes_8 : Ss := (.cons (.ite (.cmp .Eq (.var 2) (.cst (.str "and"))) (.cons (.ret (.bi .all (.cons (.lc false e_x_passes_2 (.nm 5) (.seq (.sl false (.var 0) (.so (.cst (.int 1))) .no)) .no [5]) .nil))) .nil) .nil) l_x_passes_10)
abbrev l_x_passes_6 : Ss := (.cons (.ite (.cmp .Eq (.var 2) (.cst (.str "not"))) (.cons (.ret (.not (.call K_x_passes (.cons (.ix (.var 0) (.cst (.int 1))) (.cons (.var 1) .nil))))) .nil) .nil) l_x_passes_8)
abbrev l_x_passes_4 : Ss := (.cons (.ite (.cmp .Eq (.var 2) (.cst (.str "in"))) (.cons (.ret (.bi .any (.cons (.lc false e_x_passes_1 (.tp (.cons (.nm 3) (.cons (.nm 4) .nil))) (.seq (.ix (.var 1) (.cst (.int 2)))) .no [3, 4]) .nil))) .nil) .nil) l_x_passes_6)
abbrev l_x_passes_2 : Ss := (.cons (.ite (.cmp .Eq (.var 2) (.cst (.str "has"))) (.cons (.ret (.bi .any (.cons (.lc false e_x_passes_0 (.tp (.cons (.nm 3) (.cons (.nm 4) .nil))) (.seq (.ix (.var 1) (.cst (.int 2)))) .no [3, 4]) .nil))) .nil) .nil) l_x_passes_4)
abbrev i_x_passes : Ss := (.cons (.asg (.nm 2) (.ix (.var 0) (.cst (.int 0)))) l_x_passes_2)
abbrev s_x_passes : Stmt := sAt 27
abbrev p_x_pairs : List Str := ["_law_state", "_law_question_here"]
abbrev t_x_pairs : List (Nat × List Str) := []
abbrev n_x_pairs : List Str := ["_law_state", "_law_question_here", "_law_kind", "_law_vector_here", "_law_many", "_law_sieve_here", "_law_item_here"]
abbrev e_x_pairs_0 : E := (.call K_x_passes (.cons (.var 5) (.cons (.var 6) .nil)))
abbrev e_x_pairs_1 : E := (.tup (.cons (.call K_x_far (.cons (.var 2) (.cons (.var 3) (.cons (.ix (.var 6) (.cst (.int 1))) .nil)))) (.cons (.ix (.var 6) (.cst (.int 0))) .nil)))
abbrev l_x_pairs_2 : Ss := (.cons (.ret (.bl false .sorted (.cons (.lc false e_x_pairs_1 (.nm 6) (.seq (.dvl false (.var 0))) (.so e_x_pairs_0) [6]) .nil))) .nil)
abbrev i_x_pairs : Ss := (.cons (.asg (.tp (.cons (.nm 2) (.cons (.nm 3) (.cons (.nm 4) (.cons (.nm 5) .nil))))) (.var 1)) l_x_pairs_2)
abbrev s_x_pairs : Stmt := sAt 28
abbrev p_x_sieve : List Str := ["_law_heap_here"]
abbrev t_x_sieve : List (Nat × List Str) := []
abbrev n_x_sieve : List Str := ["_law_heap_here", "_law_parts", "_law_kind"]
abbrev l_x_sieve_7 : Ss := (.cons (.ret (.tup (.cons (.call K_x_pick (.cons (.var 0) (.cons (.lst false (.cons (.cst (.str "and")) (.cons (.cst (.str "or")) .nil))) .nil))) (.cons (.call K_x_pick (.cons (.var 0) (.cons (.var 1) .nil))) (.cons (.call K_x_pick (.cons (.var 0) (.cons (.var 1) .nil))) .nil))))) .nil)
abbrev l_x_sieve_5 : Ss := (.cons (.ite (.cmp .Lt (.var 2) (.cst (.int 4))) (.cons (.ret (.call K_x_pick (.cons (.var 0) (.cons (.var 1) .nil)))) .nil) .nil) l_x_sieve_7)
abbrev l_x_sieve_3 : Ss := (.cons (.ite (.cmp .Lt (.var 2) (.cst (.int 2))) (.cons (.ret (.tup (.cons (.cst (.str "all")) .nil))) .nil) .nil) l_x_sieve_5)
abbrev l_x_sieve_2 : Ss := (.cons (.asg (.nm 2) (.call K_x_draw (.cons (.var 0) (.cons (.cst (.int 6)) .nil)))) l_x_sieve_3)
abbrev i_x_sieve : Ss := (.cons (.asg (.nm 1) (.lst false (.cons (.tup (.cons (.cst (.str "all")) .nil)) (.cons (.tup (.cons (.cst (.str "has")) (.cons (.cst (.str "a")) .nil))) (.cons (.tup (.cons (.cst (.str "has")) (.cons (.cst (.str "bb")) .nil))) (.cons (.tup (.cons (.cst (.str "in")) (.cons (.cst (.str "a")) (.cons (.bin false .Sub (.cst (.int 0)) (.cst (.int 1))) (.cons (.cst (.int 1)) .nil))))) (.cons (.tup (.cons (.cst (.str "in")) (.cons (.cst (.str "bb")) (.cons (.cst (.int 1)) (.cons (.cst (.int 2)) .nil))))) (.cons (.tup (.cons (.cst (.str "not")) (.cons (.tup (.cons (.cst (.str "has")) (.cons (.cst (.str "a")) .nil))) .nil))) .nil)))))))) l_x_sieve_2)
abbrev s_x_sieve : Stmt := sAt 29
abbrev p_x_vector : List Str := ["_law_heap_here", "_law_places"]
abbrev t_x_vector : List (Nat × List Str) := []
abbrev n_x_vector : List Str := ["_law_heap_here", "_law_places", "_law_wide", "_law_place"]
abbrev e_x_vector_0 : E := (.bin false .Sub (.call K_x_draw (.cons (.var 0) (.cons (.var 2) .nil))) (.bin false .FloorDiv (.var 2) (.cst (.int 2))))
abbrev l_x_vector_2 : Ss := (.cons (.ret (.bi .tuple (.cons (.lc false e_x_vector_0 (.nm 3) (.rng (.cons (.var 1) .nil)) .no [3]) .nil))) .nil)
abbrev i_x_vector : Ss := (.cons (.asg (.nm 2) (.call K_x_pick (.cons (.var 0) (.cons (.lst false (.cons (.cst (.int 4)) (.cons (.cst (.int 4)) (.cons (.cst (.int 4)) (.cons (.cst (.int 3)) (.cons (.cst (.int 20000)) .nil)))))) .nil)))) l_x_vector_2)
abbrev s_x_vector : Stmt := sAt 30
abbrev p_x_item : List Str := ["_law_heap_here", "_law_key", "_law_places"]
abbrev t_x_item : List (Nat × List Str) := []
abbrev n_x_item : List Str := ["_law_heap_here", "_law_key", "_law_places", "_law_labels"]
abbrev l_x_item_6 : Ss := (.cons (.ret (.tup (.cons (.var 1) (.cons (.call K_x_vector (.cons (.var 0) (.cons (.var 2) .nil))) (.cons (.bi .tuple (.cons (.var 3) .nil)) .nil))))) .nil)
abbrev l_x_item_4 : Ss := (.cons (.ite (.cmp .Eq (.call K_x_draw (.cons (.var 0) (.cons (.cst (.int 3)) .nil))) (.cst (.int 0))) (.cons (.ex (.me .append (.var 3) (.cons (.tup (.cons (.cst (.str "bb")) (.cons (.call K_x_draw (.cons (.var 0) (.cons (.cst (.int 4)) .nil))) .nil))) .nil))) .nil) .nil) l_x_item_6)
abbrev l_x_item_2 : Ss := (.cons (.ite (.cmp .Gt (.call K_x_draw (.cons (.var 0) (.cons (.cst (.int 3)) .nil))) (.cst (.int 0))) (.cons (.ex (.me .append (.var 3) (.cons (.tup (.cons (.cst (.str "a")) (.cons (.bin false .Sub (.call K_x_draw (.cons (.var 0) (.cons (.cst (.int 5)) .nil))) (.cst (.int 2))) .nil))) .nil))) .nil) .nil) l_x_item_4)
abbrev i_x_item : Ss := (.cons (.asg (.nm 3) (.lst true .nil)) l_x_item_2)
abbrev s_x_item : Stmt := sAt 31
abbrev p_x_question : List Str := ["_law_heap_here", "_law_places", "_law_most"]
abbrev t_x_question : List (Nat × List Str) := []
abbrev n_x_question : List Str := ["_law_heap_here", "_law_places", "_law_most", "_law_many"]
abbrev l_x_question_2 : Ss := (.cons (.ret (.tup (.cons (.call K_x_pick (.cons (.var 0) (.cons (.lst false (.cons (.cst (.str "square")) (.cons (.cst (.str "sum")) (.cons (.cst (.str "most")) (.cons (.cst (.str "unlike")) .nil))))) .nil))) (.cons (.call K_x_vector (.cons (.var 0) (.cons (.var 1) .nil))) (.cons (.var 3) (.cons (.call K_x_sieve (.cons (.var 0) .nil)) .nil)))))) .nil)
abbrev i_x_question : Ss := (.cons (.asg (.nm 3) (.bin false .Add (.cst (.int 1)) (.call K_x_draw (.cons (.var 0) (.cons (.call K_x_pick (.cons (.var 0) (.cons (.lst false (.cons (.var 2) (.cons (.var 2) (.cons (.bin false .Add (.var 2) (.cst (.int 9))) .nil)))) .nil))) .nil))))) l_x_question_2)
abbrev s_x_question : Stmt := sAt 32
abbrev p_x_start : List Str := ["_law_heap_here", "_law_keys", "_law_places"]
abbrev t_x_start : List (Nat × List Str) := []
abbrev n_x_start : List Str := ["_law_heap_here", "_law_keys", "_law_places", "_law_found", "_law_key"]
abbrev l_x_start_3 : Ss := (.cons (.ite (.cmp .Gt (.call K_x_draw (.cons (.var 0) (.cons (.cst (.int 3)) .nil))) (.cst (.int 0))) (.cons (.asg (.ix (.var 3) (.var 4)) (.call K_x_item (.cons (.var 0) (.cons (.var 4) (.cons (.var 2) .nil))))) .nil) .nil) .nil)
abbrev l_x_start_5 : Ss := (.cons (.ret (.var 3)) .nil)
abbrev l_x_start_2 : Ss := (.cons (.for_ (.nm 4) (.seq (.var 1)) l_x_start_3) l_x_start_5)
abbrev i_x_start : Ss := (.cons (.asg (.nm 3) (.dsp true [] .nil)) l_x_start_2)
abbrev s_x_start : Stmt := sAt 33
abbrev p_x_deed : List Str := ["_law_heap_here", "_law_state", "_law_keys", "_law_places"]
abbrev t_x_deed : List (Nat × List Str) := []
abbrev n_x_deed : List Str := ["_law_heap_here", "_law_state", "_law_keys", "_law_places", "_law_key", "_law_kind"]
abbrev l_x_deed_8 : Ss := (.cons (.ret (.tup (.cons (.cst (.str "put")) (.cons (.call K_x_item (.cons (.var 0) (.cons (.var 4) (.cons (.var 3) .nil)))) .nil)))) .nil)
abbrev l_x_deed_6 : Ss := (.cons (.ite (.and (.cmp .Eq (.var 5) (.cst (.int 3))) (.cmp .In (.var 4) (.var 1))) (.cons (.ret (.tup (.cons (.cst (.str "put")) (.cons (.tup (.cons (.var 4) (.cons (.call K_x_vector (.cons (.var 0) (.cons (.var 3) .nil))) (.cons (.ix (.ix (.var 1) (.var 4)) (.cst (.int 2))) .nil)))) .nil)))) .nil) .nil) l_x_deed_8)
abbrev l_x_deed_4 : Ss := (.cons (.ite (.and (.cmp .Eq (.var 5) (.cst (.int 2))) (.cmp .In (.var 4) (.var 1))) (.cons (.ret (.tup (.cons (.cst (.str "put")) (.cons (.ix (.var 1) (.var 4)) .nil)))) .nil) .nil) l_x_deed_6)
abbrev l_x_deed_2 : Ss := (.cons (.ite (.cmp .Lt (.var 5) (.cst (.int 2))) (.cons (.ret (.tup (.cons (.cst (.str "take")) (.cons (.var 4) .nil)))) .nil) .nil) l_x_deed_4)
abbrev i_x_deed : Ss := (.cons (.par (.cons (.nm 4) (.cons (.nm 5) .nil)) (.cons (.call K_x_pick (.cons (.var 0) (.cons (.var 2) .nil))) (.cons (.call K_x_draw (.cons (.var 0) (.cons (.cst (.int 6)) .nil))) .nil))) l_x_deed_2)
abbrev s_x_deed : Stmt := sAt 34
abbrev p_x_done : List Str := ["_law_state", "_law_deed_here"]
abbrev t_x_done : List (Nat × List Str) := []
abbrev n_x_done : List Str := ["_law_state", "_law_deed_here", "_law_key", "_law_found", "_law_other"]
abbrev l_x_done_3 : Ss := (.cons (.ite (.cmp .NotEq (.var 4) (.var 2)) (.cons (.asg (.ix (.var 3) (.var 4)) (.ix (.var 0) (.var 4))) .nil) .nil) .nil)
abbrev l_x_done_7 : Ss := (.cons (.ret (.var 3)) .nil)
abbrev l_x_done_5 : Ss := (.cons (.ite (.cmp .Eq (.ix (.var 1) (.cst (.int 0))) (.cst (.str "put"))) (.cons (.asg (.ix (.var 3) (.var 2)) (.ix (.var 1) (.cst (.int 1)))) .nil) .nil) l_x_done_7)
abbrev l_x_done_2 : Ss := (.cons (.forD 0 4 l_x_done_3) l_x_done_5)
abbrev i_x_done : Ss := (.cons (.par (.cons (.nm 2) (.cons (.nm 3) .nil)) (.cons (.ite (.cmp .Eq (.ix (.var 1) (.cst (.int 0))) (.cst (.str "put"))) (.ix (.ix (.var 1) (.cst (.int 1))) (.cst (.int 0))) (.ix (.var 1) (.cst (.int 1)))) (.cons (.dsp true [] .nil) .nil))) l_x_done_2)
abbrev s_x_done : Stmt := sAt 35
abbrev p_x_news : List Str := ["_law_before", "_law_after"]
abbrev t_x_news : List (Nat × List Str) := []
abbrev n_x_news : List Str := ["_law_before", "_law_after", "_law_pair"]
abbrev e_x_news_0 : E := (.cmp .NotIn (.var 2) (.var 1))
abbrev e_x_news_1 : E := (.var 2)
abbrev e_x_news_2 : E := (.cmp .NotIn (.var 2) (.var 0))
abbrev e_x_news_3 : E := (.var 2)
abbrev i_x_news : Ss := (.cons (.ret (.tup (.cons (.bi .tuple (.cons (.lc false e_x_news_1 (.nm 2) (.seq (.var 0)) (.so e_x_news_0) [2]) .nil)) (.cons (.bi .tuple (.cons (.lc false e_x_news_3 (.nm 2) (.seq (.var 1)) (.so e_x_news_2) [2]) .nil)) .nil)))) .nil)
abbrev s_x_news : Stmt := sAt 36
abbrev p_x_due : List Str := ["_law_state", "_law_question_here", "_law_reach"]
abbrev t_x_due : List (Nat × List Str) := []
abbrev n_x_due : List Str := ["_law_state", "_law_question_here", "_law_reach", "_law_pair"]
abbrev e_x_due_0 : E := (.cmp .LtE (.ix (.var 3) (.cst (.int 0))) (.var 2))
abbrev e_x_due_1 : E := (.var 3)
abbrev i_x_due : Ss := (.cons (.ret (.bi .tuple (.cons (.lc false e_x_due_1 (.nm 3) (.seq (.call K_x_pairs (.cons (.var 0) (.cons (.var 1) .nil)))) (.so e_x_due_0) [3]) .nil))) .nil)
abbrev s_x_due : Stmt := sAt 37
abbrev p_x_run : List Str := ["_law_heap_here", "_law_places", "_law_keys", "_law_turns"]
abbrev t_x_run : List (Nat × List Str) := []
abbrev n_x_run : List Str := ["_law_heap_here", "_law_places", "_law_keys", "_law_turns", "_law_state", "_law_question_here", "_law_kind", "_law_vector_here", "_law_many", "_law_sieve_here", "_law_reach", "_law_passed", "_law_one", "_law_twin", "_law_due_here", "_law_first", "_law_turn", "_law_deed_here", "_law_later"]
abbrev l_x_run_17 : Ss := (.cons (.asg (.nm 14) (.var 18)) .nil)
abbrev l_x_run_15 : Ss := (.cons (.ite (.cmp .NotEq (.bi .repr (.cons (.mth [("Nearby", K_Nearby_told, [0, 1])] "told" (.var 12) .nil (.cons (.var 17) .nil)) .nil)) (.bi .repr (.cons (.call K_x_news (.cons (.var 14) (.cons (.var 18) .nil))) .nil))) (.cons (.ret (.cst (.bl false))) .nil) .nil) l_x_run_17)
abbrev l_x_run_14 : Ss := (.cons (.asg (.nm 18) (.call K_x_due (.cons (.var 4) (.cons (.var 5) (.cons (.var 10) .nil))))) l_x_run_15)
abbrev l_x_run_13 : Ss := (.cons (.asg (.nm 4) (.call K_x_done (.cons (.var 4) (.cons (.var 17) .nil)))) l_x_run_14)
abbrev l_x_run_12 : Ss := (.cons (.asg (.nm 17) (.call K_x_deed (.cons (.var 0) (.cons (.var 4) (.cons (.var 2) (.cons (.var 1) .nil)))))) l_x_run_13)
abbrev l_x_run_10 : Ss := (.cons (.ite (.or (.cmp .NotEq (.bi .repr (.cons (.mth [("Nearby", K_Nearby_kept, [0])] "kept" (.var 12) .nil .nil) .nil)) (.bi .repr (.cons (.var 14) .nil))) (.cmp .NotEq (.tup (.cons (.fld (.var 12) "kind" ["Nearby"]) (.cons (.fld (.var 12) "vector" ["Nearby"]) (.cons (.fld (.var 12) "reach" ["Nearby"]) (.cons (.fld (.var 12) "sieve" ["Nearby"]) .nil))))) (.tup (.cons (.var 6) (.cons (.var 7) (.cons (.var 10) (.cons (.var 9) .nil))))))) (.cons (.ret (.cst (.bl false))) .nil) .nil) l_x_run_12)
abbrev l_x_run_18 : Ss := (.cons (.ret (.and (.cmp .Eq (.bi .repr (.cons (.mth [("Nearby", K_Nearby_kept, [0])] "kept" (.var 12) .nil .nil) .nil)) (.bi .repr (.cons (.var 14) .nil))) (.cmp .Eq (.bi .repr (.cons (.mth [("Nearby", K_Nearby_kept, [0])] "kept" (.var 13) .nil .nil) .nil)) (.var 15)))) .nil)
abbrev l_x_run_9 : Ss := (.cons (.for_ (.nm 16) (.rng (.cons (.var 3) .nil)) l_x_run_10) l_x_run_18)
abbrev l_x_run_8 : Ss := (.cons (.asg (.nm 15) (.bi .repr (.cons (.var 14) .nil))) l_x_run_9)
abbrev l_x_run_7 : Ss := (.cons (.asg (.ix (.var 11) (.cst (.int 77))) (.tup (.cons (.cst (.int 77)) (.cons (.var 7) (.cons (.tup .nil) .nil))))) l_x_run_8)
abbrev l_x_run_6 : Ss := (.cons (.par (.cons (.nm 13) (.cons (.nm 14) .nil)) (.cons (.mkc K_Nearby___init__ "Nearby" [0, 1, 2, 3, 4, 5] (.cons (.var 4) (.cons (.var 6) (.cons (.var 7) (.cons (.var 10) (.cons (.var 9) .nil))))) .nil) (.cons (.call K_x_due (.cons (.var 4) (.cons (.var 5) (.cons (.var 10) .nil)))) .nil))) l_x_run_7)
abbrev l_x_run_5 : Ss := (.cons (.asg (.nm 12) (.mkc K_Nearby___init__ "Nearby" [0, 5, 4, 3, 2, 1] .nil (.cons (.var 9) (.cons (.var 10) (.cons (.var 7) (.cons (.var 6) (.cons (.var 11) .nil))))))) l_x_run_6)
abbrev l_x_run_4 : Ss := (.cons (.asg (.nm 11) (.call K_x_done (.cons (.var 4) (.cons (.tup (.cons (.cst (.str "take")) (.cons (.bin false .Sub (.cst (.int 0)) (.cst (.int 1))) .nil))) .nil)))) l_x_run_5)
abbrev l_x_run_3 : Ss := (.cons (.asg (.nm 10) (.call K_x_pick (.cons (.var 0) (.cons (.lst false (.cons (.bin false .Sub (.cst (.int 0)) (.cst (.int 1))) (.cons (.cst (.int 0)) (.cons (.cst (.int 1)) (.cons (.cst (.int 2)) (.cons (.cst (.int 3)) (.cons (.cst (.int 5)) (.cons (.cst (.int 9)) (.cons (.call K_x_draw (.cons (.var 0) (.cons (.cst (.int 40)) .nil))) (.cons (.bin false .Pow (.cst (.int 10)) (.cst (.int 9))) .nil)))))))))) .nil)))) l_x_run_4)
abbrev l_x_run_2 : Ss := (.cons (.asg (.tp (.cons (.nm 6) (.cons (.nm 7) (.cons (.nm 8) (.cons (.nm 9) .nil))))) (.var 5)) l_x_run_3)
abbrev i_x_run : Ss := (.cons (.par (.cons (.nm 4) (.cons (.nm 5) .nil)) (.cons (.call K_x_start (.cons (.var 0) (.cons (.var 2) (.cons (.var 1) .nil)))) (.cons (.call K_x_question (.cons (.var 0) (.cons (.var 1) (.cons (.cst (.int 1)) .nil)))) .nil))) l_x_run_2)
abbrev s_x_run : Stmt := sAt 38
abbrev p_law : List Str := ["_law_script"]
abbrev t_law : List (Nat × List Str) := []
abbrev n_law : List Str := ["_law_script", "_law_heap_here", "_law_turn", "_law_keys", "_law_one", "_law_at"]
abbrev e_law_0 : E := (.bin false .Add (.bin false .Mult (.cst (.int 3)) (.var 5)) (.call K_x_draw (.cons (.var 1) (.cons (.cst (.int 3)) .nil))))
abbrev l_law_4 : Ss := (.cons (.ite (.not (.call K_x_run (.cons (.var 1) (.cons (.call K_x_pick (.cons (.var 1) (.cons (.lst false (.cons (.cst (.int 1)) (.cons (.cst (.int 2)) (.cons (.cst (.int 3)) (.cons (.cst (.int 2)) (.cons (.cst (.int 8)) .nil)))))) .nil))) (.cons (.var 3) (.cons (.bin false .Add (.cst (.int 6)) (.call K_x_draw (.cons (.var 1) (.cons (.cst (.int 10)) .nil)))) .nil)))))) (.cons (.ret (.cst (.bl false))) .nil) .nil) .nil)
abbrev l_law_3 : Ss := (.cons (.asg (.nm 3) (.lc false e_law_0 (.nm 5) (.rng (.cons (.bin false .Add (.cst (.int 3)) (.call K_x_draw (.cons (.var 1) (.cons (.cst (.int 8)) .nil)))) .nil)) .no [5])) l_law_4)
abbrev l_law_11 : Ss := (.cons (.ret (.and (.cmp .Eq (.mth [("Nearby", K_Nearby_told, [0, 1])] "told" (.var 4) (.cons (.tup (.cons (.cst (.str "put")) (.cons (.tup (.cons (.cst (.int 6)) (.cons (.tup (.cons (.cst (.int 0)) (.cons (.bin false .Sub (.cst (.int 0)) (.cst (.int 5))) .nil))) (.cons (.tup .nil) .nil)))) .nil))) .nil) .nil) (.tup (.cons (.tup .nil) (.cons (.tup (.cons (.tup (.cons (.cst (.int 25)) (.cons (.cst (.int 6)) .nil))) .nil)) .nil)))) (.cmp .Eq (.mth [("Nearby", K_Nearby_told, [0, 1])] "told" (.var 4) (.cons (.tup (.cons (.cst (.str "put")) (.cons (.tup (.cons (.cst (.int 6)) (.cons (.tup (.cons (.cst (.int 1)) (.cons (.cst (.int 0)) .nil))) (.cons (.tup .nil) .nil)))) .nil))) .nil) .nil) (.tup (.cons (.tup (.cons (.tup (.cons (.cst (.int 25)) (.cons (.cst (.int 6)) .nil))) .nil)) (.cons (.tup (.cons (.tup (.cons (.cst (.int 1)) (.cons (.cst (.int 6)) .nil))) .nil)) .nil)))))) .nil)
abbrev l_law_9 : Ss := (.cons (.ite (.or (.cmp .NotEq (.mth [("Nearby", K_Nearby_told, [0, 1])] "told" (.var 4) (.cons (.tup (.cons (.cst (.str "put")) (.cons (.tup (.cons (.cst (.int 4)) (.cons (.tup (.cons (.cst (.int 3)) (.cons (.cst (.int 4)) .nil))) (.cons (.tup (.cons (.tup (.cons (.cst (.str "a")) (.cons (.cst (.int 0)) .nil))) .nil)) .nil)))) .nil))) .nil) .nil) (.tup (.cons (.tup (.cons (.tup (.cons (.cst (.int 25)) (.cons (.cst (.int 4)) .nil))) .nil)) (.cons (.tup .nil) .nil)))) (.cmp .NotEq (.mth [("Nearby", K_Nearby_told, [0, 1])] "told" (.var 4) (.cons (.tup (.cons (.cst (.str "take")) (.cons (.cst (.int 4)) .nil))) .nil) .nil) (.tup (.cons (.tup .nil) (.cons (.tup .nil) .nil))))) (.cons (.ret (.cst (.bl false))) .nil) .nil) l_law_11)
abbrev l_law_7 : Ss := (.cons (.ite (.or (.cmp .NotEq (.mth [("Nearby", K_Nearby_kept, [0])] "kept" (.var 4) .nil .nil) (.tup .nil)) (.or (.cmp .NotEq (.mth [("Nearby", K_Nearby_told, [0, 1])] "told" (.var 4) (.cons (.tup (.cons (.cst (.str "put")) (.cons (.tup (.cons (.cst (.int 4)) (.cons (.tup (.cons (.cst (.int 3)) (.cons (.cst (.int 4)) .nil))) (.cons (.tup .nil) .nil)))) .nil))) .nil) .nil) (.tup (.cons (.tup .nil) (.cons (.tup (.cons (.tup (.cons (.cst (.int 25)) (.cons (.cst (.int 4)) .nil))) .nil)) .nil)))) (.cmp .NotEq (.mth [("Nearby", K_Nearby_told, [0, 1])] "told" (.var 4) (.cons (.tup (.cons (.cst (.str "put")) (.cons (.tup (.cons (.cst (.int 5)) (.cons (.tup (.cons (.cst (.int 3)) (.cons (.cst (.int 5)) .nil))) (.cons (.tup .nil) .nil)))) .nil))) .nil) .nil) (.tup (.cons (.tup .nil) (.cons (.tup .nil) .nil)))))) (.cons (.ret (.cst (.bl false))) .nil) .nil) l_law_9)
abbrev l_law_6 : Ss := (.cons (.asg (.nm 4) (.mkc K_Nearby___init__ "Nearby" [0, 1, 2, 3, 4, 5] (.cons (.dsp false [] .nil) (.cons (.cst (.str "square")) (.cons (.tup (.cons (.cst (.int 0)) (.cons (.cst (.int 0)) .nil))) (.cons (.cst (.int 25)) (.cons (.tup (.cons (.cst (.str "not")) (.cons (.tup (.cons (.cst (.str "has")) (.cons (.cst (.str "a")) .nil))) .nil))) .nil))))) .nil)) l_law_7)
abbrev l_law_2 : Ss := (.cons (.for_ (.nm 2) (.rng (.cons (.bin false .Add (.cst (.int 2)) (.bin false .Mult (.cst (.int 2)) (.bi .int (.cons (.cmp .Gt (.bi .len (.cons (.var 0) .nil)) (.cst (.int 1))) .nil)))) .nil)) l_law_3) l_law_6)
abbrev i_law : Ss := (.cons (.asg (.nm 1) (.call K_x_heap (.cons (.var 0) .nil))) l_law_2)
abbrev s_law : Stmt := sAt 39
def fnN : List (Str × List Str × List (Nat × List Str)) := ("differences", p_differences, t_differences) :: ("part_of", p_part_of, t_part_of) :: ("joined_parts", p_joined_parts, t_joined_parts) :: ("distance", p_distance, t_distance) :: ("is_within", p_is_within, t_is_within) :: ("label_in", p_label_in, t_label_in) :: ("lets_by", p_lets_by, t_lets_by) :: ("passes", p_passes, t_passes) :: ("deed_key", p_deed_key, t_deed_key) :: ("passing_keys", p_passing_keys, t_passing_keys) :: ("pairs_from", p_pairs_from, t_pairs_from) :: ("within", p_within, t_within) :: ("put_pair", p_put_pair, t_put_pair) :: ("news_of", p_news_of, t_news_of) :: ("Nearby.__init__", p_Nearby___init__, t_Nearby___init__) :: ("Nearby.kept", p_Nearby_kept, t_Nearby_kept) :: ("Nearby.told", p_Nearby_told, t_Nearby_told) :: ("_law_heap", p_x_heap, t_x_heap) :: ("_law_draw", p_x_draw, t_x_draw) :: ("_law_pick", p_x_pick, t_x_pick) :: ("_law_far", p_x_far, t_x_far) :: ("_law_passes", p_x_passes, t_x_passes) :: ("_law_pairs", p_x_pairs, t_x_pairs) :: ("_law_sieve", p_x_sieve, t_x_sieve) :: ("_law_vector", p_x_vector, t_x_vector) :: ("_law_item", p_x_item, t_x_item) :: ("_law_question", p_x_question, t_x_question) :: ("_law_start", p_x_start, t_x_start) :: ("_law_deed", p_x_deed, t_x_deed) :: ("_law_done", p_x_done, t_x_done) :: ("_law_news", p_x_news, t_x_news) :: ("_law_due", p_x_due, t_x_due) :: ("_law_run", p_x_run, t_x_run) :: ("law", p_law, t_law) :: []
def ecN : List (Str × List Str) := []
def exN : List (Str × Str × Bool) := []
def kdN : List (Str × List Str) := []
def clN : List (Str × List Str) := [("Nearby", ["kind", "vector", "reach", "sieve", "all_pairs"])]
def ck (k : Nat) (N : List Str) : Ck := { N := N, gl := glN, fn := fnN.take k, bt := btN, im := imN, ec := ecN, exm := exN, kd := kdN, cl := clN }
theorem c_differences : kSs (ck 0 n_differences) (defScope s_differences) i_differences (defBody s_differences) = true := by decide +kernel
theorem f_differences : FnScope n_differences p_differences (defScope s_differences) := ⟨rfl, rfl, rfl, by decide +kernel, rfl, by decide +kernel, by decide +kernel⟩
theorem b_differences : ∀ kV dc pm an cd ct, Bnd (PySem.W.fnOf "differences" "differences" (defArgs s_differences) (defBody s_differences) (defScope s_differences) .none kV dc pm an cd ct) p_differences t_differences := fun _ _ _ _ _ _ => ⟨fun us h => by match us, h with | [_, _], _ => rfl, fun p hp us ws h1 h2 => by
  cases hp⟩
theorem c_part_of : kSs (ck 1 n_part_of) (defScope s_part_of) i_part_of (defBody s_part_of) = true := by decide +kernel
theorem f_part_of : FnScope n_part_of p_part_of (defScope s_part_of) := ⟨rfl, rfl, rfl, by decide +kernel, rfl, by decide +kernel, by decide +kernel⟩
theorem b_part_of : ∀ kV dc pm an cd ct, Bnd (PySem.W.fnOf "part_of" "part_of" (defArgs s_part_of) (defBody s_part_of) (defScope s_part_of) .none kV dc pm an cd ct) p_part_of t_part_of := fun _ _ _ _ _ _ => ⟨fun us h => by match us, h with | [_, _], _ => rfl, fun p hp us ws h1 h2 => by
  cases hp⟩
theorem c_joined_parts : kSs (ck 2 n_joined_parts) (defScope s_joined_parts) i_joined_parts (defBody s_joined_parts) = true := by decide +kernel
theorem f_joined_parts : FnScope n_joined_parts p_joined_parts (defScope s_joined_parts) := ⟨rfl, rfl, rfl, by decide +kernel, rfl, by decide +kernel, by decide +kernel⟩
theorem b_joined_parts : ∀ kV dc pm an cd ct, Bnd (PySem.W.fnOf "joined_parts" "joined_parts" (defArgs s_joined_parts) (defBody s_joined_parts) (defScope s_joined_parts) .none kV dc pm an cd ct) p_joined_parts t_joined_parts := fun _ _ _ _ _ _ => ⟨fun us h => by match us, h with | [_, _], _ => rfl, fun p hp us ws h1 h2 => by
  cases hp⟩
theorem c_distance : kSs (ck 3 n_distance) (defScope s_distance) i_distance (defBody s_distance) = true := by decide +kernel
theorem f_distance : FnScope n_distance p_distance (defScope s_distance) := ⟨rfl, rfl, rfl, by decide +kernel, rfl, by decide +kernel, by decide +kernel⟩
theorem b_distance : ∀ kV dc pm an cd ct, Bnd (PySem.W.fnOf "distance" "distance" (defArgs s_distance) (defBody s_distance) (defScope s_distance) .none kV dc pm an cd ct) p_distance t_distance := fun _ _ _ _ _ _ => ⟨fun us h => by match us, h with | [_, _, _], _ => rfl, fun p hp us ws h1 h2 => by
  cases hp⟩
theorem c_is_within : kSs (ck 4 n_is_within) (defScope s_is_within) i_is_within (defBody s_is_within) = true := by decide +kernel
theorem f_is_within : FnScope n_is_within p_is_within (defScope s_is_within) := ⟨rfl, rfl, rfl, by decide +kernel, rfl, by decide +kernel, by decide +kernel⟩
theorem b_is_within : ∀ kV dc pm an cd ct, Bnd (PySem.W.fnOf "is_within" "is_within" (defArgs s_is_within) (defBody s_is_within) (defScope s_is_within) .none kV dc pm an cd ct) p_is_within t_is_within := fun _ _ _ _ _ _ => ⟨fun us h => by match us, h with | [_, _, _, _], _ => rfl, fun p hp us ws h1 h2 => by
  cases hp⟩
theorem c_label_in : kSs (ck 5 n_label_in) (defScope s_label_in) i_label_in (defBody s_label_in) = true := by decide +kernel
theorem f_label_in : FnScope n_label_in p_label_in (defScope s_label_in) := ⟨rfl, rfl, rfl, by decide +kernel, rfl, by decide +kernel, by decide +kernel⟩
theorem b_label_in : ∀ kV dc pm an cd ct, Bnd (PySem.W.fnOf "label_in" "label_in" (defArgs s_label_in) (defBody s_label_in) (defScope s_label_in) .none kV dc pm an cd ct) p_label_in t_label_in := fun _ _ _ _ _ _ => ⟨fun us h => by match us, h with | [_, _], _ => rfl, fun p hp us ws h1 h2 => by
  cases hp⟩
theorem c_lets_by : kSs (ck 7 n_lets_by) (defScope s_lets_by) i_lets_by (defBody s_lets_by) = true := by decide +kernel
theorem f_lets_by : FnScope n_lets_by p_lets_by (defScope s_lets_by) := ⟨rfl, rfl, rfl, by decide +kernel, rfl, by decide +kernel, by decide +kernel⟩
theorem b_lets_by : ∀ kV dc pm an cd ct, Bnd (PySem.W.fnOf "lets_by" "lets_by" (defArgs s_lets_by) (defBody s_lets_by) (defScope s_lets_by) .none kV dc pm an cd ct) p_lets_by t_lets_by := fun _ _ _ _ _ _ => ⟨fun us h => by match us, h with | [_, _], _ => rfl, fun p hp us ws h1 h2 => by
  cases hp⟩
theorem c_passes : kSs (ck 7 n_passes) (defScope s_passes) i_passes (defBody s_passes) = true := by decide +kernel
theorem f_passes : FnScope n_passes p_passes (defScope s_passes) := ⟨rfl, rfl, rfl, by decide +kernel, rfl, by decide +kernel, by decide +kernel⟩
theorem b_passes : ∀ kV dc pm an cd ct, Bnd (PySem.W.fnOf "passes" "passes" (defArgs s_passes) (defBody s_passes) (defScope s_passes) .none kV dc pm an cd ct) p_passes t_passes := fun _ _ _ _ _ _ => ⟨fun us h => by match us, h with | [_, _], _ => rfl, fun p hp us ws h1 h2 => by
  cases hp⟩
theorem c_deed_key : kSs (ck 8 n_deed_key) (defScope s_deed_key) i_deed_key (defBody s_deed_key) = true := by decide +kernel
theorem f_deed_key : FnScope n_deed_key p_deed_key (defScope s_deed_key) := ⟨rfl, rfl, rfl, by decide +kernel, rfl, by decide +kernel, by decide +kernel⟩
theorem b_deed_key : ∀ kV dc pm an cd ct, Bnd (PySem.W.fnOf "deed_key" "deed_key" (defArgs s_deed_key) (defBody s_deed_key) (defScope s_deed_key) .none kV dc pm an cd ct) p_deed_key t_deed_key := fun _ _ _ _ _ _ => ⟨fun us h => by match us, h with | [_], _ => rfl, fun p hp us ws h1 h2 => by
  cases hp⟩
theorem c_passing_keys : kSs (ck 9 n_passing_keys) (defScope s_passing_keys) i_passing_keys (defBody s_passing_keys) = true := by decide +kernel
theorem f_passing_keys : FnScope n_passing_keys p_passing_keys (defScope s_passing_keys) := ⟨rfl, rfl, rfl, by decide +kernel, rfl, by decide +kernel, by decide +kernel⟩
theorem b_passing_keys : ∀ kV dc pm an cd ct, Bnd (PySem.W.fnOf "passing_keys" "passing_keys" (defArgs s_passing_keys) (defBody s_passing_keys) (defScope s_passing_keys) .none kV dc pm an cd ct) p_passing_keys t_passing_keys := fun _ _ _ _ _ _ => ⟨fun us h => by match us, h with | [_, _], _ => rfl, fun p hp us ws h1 h2 => by
  cases hp⟩
theorem c_pairs_from : kSs (ck 10 n_pairs_from) (defScope s_pairs_from) i_pairs_from (defBody s_pairs_from) = true := by decide +kernel
theorem f_pairs_from : FnScope n_pairs_from p_pairs_from (defScope s_pairs_from) := ⟨rfl, rfl, rfl, by decide +kernel, rfl, by decide +kernel, by decide +kernel⟩
theorem b_pairs_from : ∀ kV dc pm an cd ct, Bnd (PySem.W.fnOf "pairs_from" "pairs_from" (defArgs s_pairs_from) (defBody s_pairs_from) (defScope s_pairs_from) .none kV dc pm an cd ct) p_pairs_from t_pairs_from := fun _ _ _ _ _ _ => ⟨fun us h => by match us, h with | [_, _, _, _], _ => rfl, fun p hp us ws h1 h2 => by
  cases hp⟩
theorem c_within : kSs (ck 11 n_within) (defScope s_within) i_within (defBody s_within) = true := by decide +kernel
theorem f_within : FnScope n_within p_within (defScope s_within) := ⟨rfl, rfl, rfl, by decide +kernel, rfl, by decide +kernel, by decide +kernel⟩
theorem b_within : ∀ kV dc pm an cd ct, Bnd (PySem.W.fnOf "within" "within" (defArgs s_within) (defBody s_within) (defScope s_within) .none kV dc pm an cd ct) p_within t_within := fun _ _ _ _ _ _ => ⟨fun us h => by match us, h with | [_, _, _, _, _], _ => rfl, fun p hp us ws h1 h2 => by
  cases hp⟩
theorem c_put_pair : kSs (ck 12 n_put_pair) (defScope s_put_pair) i_put_pair (defBody s_put_pair) = true := by decide +kernel
theorem f_put_pair : FnScope n_put_pair p_put_pair (defScope s_put_pair) := ⟨rfl, rfl, rfl, by decide +kernel, rfl, by decide +kernel, by decide +kernel⟩
theorem b_put_pair : ∀ kV dc pm an cd ct, Bnd (PySem.W.fnOf "put_pair" "put_pair" (defArgs s_put_pair) (defBody s_put_pair) (defScope s_put_pair) .none kV dc pm an cd ct) p_put_pair t_put_pair := fun _ _ _ _ _ _ => ⟨fun us h => by match us, h with | [_, _, _, _], _ => rfl, fun p hp us ws h1 h2 => by
  cases hp⟩
theorem c_news_of : kSs (ck 13 n_news_of) (defScope s_news_of) i_news_of (defBody s_news_of) = true := by decide +kernel
theorem f_news_of : FnScope n_news_of p_news_of (defScope s_news_of) := ⟨rfl, rfl, rfl, by decide +kernel, rfl, by decide +kernel, by decide +kernel⟩
theorem b_news_of : ∀ kV dc pm an cd ct, Bnd (PySem.W.fnOf "news_of" "news_of" (defArgs s_news_of) (defBody s_news_of) (defScope s_news_of) .none kV dc pm an cd ct) p_news_of t_news_of := fun _ _ _ _ _ _ => ⟨fun us h => by match us, h with | [_, _], _ => rfl, fun p hp us ws h1 h2 => by
  cases hp⟩
theorem c_Nearby___init__ : kSs (ck 14 n_Nearby___init__) (defScope s_Nearby___init__) i_Nearby___init__ (defBody s_Nearby___init__) = true := by decide +kernel
theorem f_Nearby___init__ : FnScope n_Nearby___init__ p_Nearby___init__ (defScope s_Nearby___init__) := ⟨rfl, rfl, rfl, by decide +kernel, rfl, by decide +kernel, by decide +kernel⟩
theorem b_Nearby___init__ : ∀ kV dc pm an cd ct, Bnd (PySem.W.fnOf "__init__" "Nearby.__init__" (defArgs s_Nearby___init__) (defBody s_Nearby___init__) (defScope s_Nearby___init__) .none kV dc pm an cd ct) p_Nearby___init__ t_Nearby___init__ := fun _ _ _ _ _ _ => ⟨fun us h => by match us, h with | [_, _, _, _, _, _], _ => rfl, fun p hp us ws h1 h2 => by
  simp only [List.mem_cons, List.not_mem_nil, or_false] at hp
  rcases hp with rfl
  · match us, ws, h1, h2 with
    | [_], [_, _, _, _, _], _, _ => exact ⟨rfl, rfl⟩
  ⟩
theorem c_Nearby_kept : kSs (ck 15 n_Nearby_kept) (defScope s_Nearby_kept) i_Nearby_kept (defBody s_Nearby_kept) = true := by decide +kernel
theorem f_Nearby_kept : FnScope n_Nearby_kept p_Nearby_kept (defScope s_Nearby_kept) := ⟨rfl, rfl, rfl, by decide +kernel, rfl, by decide +kernel, by decide +kernel⟩
theorem b_Nearby_kept : ∀ kV dc pm an cd ct, Bnd (PySem.W.fnOf "kept" "Nearby.kept" (defArgs s_Nearby_kept) (defBody s_Nearby_kept) (defScope s_Nearby_kept) .none kV dc pm an cd ct) p_Nearby_kept t_Nearby_kept := fun _ _ _ _ _ _ => ⟨fun us h => by match us, h with | [_], _ => rfl, fun p hp us ws h1 h2 => by
  cases hp⟩
theorem c_Nearby_told : kSs (ck 16 n_Nearby_told) (defScope s_Nearby_told) i_Nearby_told (defBody s_Nearby_told) = true := by decide +kernel
theorem f_Nearby_told : FnScope n_Nearby_told p_Nearby_told (defScope s_Nearby_told) := ⟨rfl, rfl, rfl, by decide +kernel, rfl, by decide +kernel, by decide +kernel⟩
theorem b_Nearby_told : ∀ kV dc pm an cd ct, Bnd (PySem.W.fnOf "told" "Nearby.told" (defArgs s_Nearby_told) (defBody s_Nearby_told) (defScope s_Nearby_told) .none kV dc pm an cd ct) p_Nearby_told t_Nearby_told := fun _ _ _ _ _ _ => ⟨fun us h => by match us, h with | [_, _], _ => rfl, fun p hp us ws h1 h2 => by
  simp only [List.mem_cons, List.not_mem_nil, or_false] at hp
  rcases hp with rfl
  · match us, ws, h1, h2 with
    | [_], [_], _, _ => exact ⟨rfl, rfl⟩
  ⟩
theorem c_x_heap : kSs (ck 17 n_x_heap) (defScope s_x_heap) i_x_heap (defBody s_x_heap) = true := by decide +kernel
theorem f_x_heap : FnScope n_x_heap p_x_heap (defScope s_x_heap) := ⟨rfl, rfl, rfl, by decide +kernel, rfl, by decide +kernel, by decide +kernel⟩
theorem b_x_heap : ∀ kV dc pm an cd ct, Bnd (PySem.W.fnOf "_law_heap" "_law_heap" (defArgs s_x_heap) (defBody s_x_heap) (defScope s_x_heap) .none kV dc pm an cd ct) p_x_heap t_x_heap := fun _ _ _ _ _ _ => ⟨fun us h => by match us, h with | [_], _ => rfl, fun p hp us ws h1 h2 => by
  cases hp⟩
theorem c_x_draw : kSs (ck 18 n_x_draw) (defScope s_x_draw) i_x_draw (defBody s_x_draw) = true := by decide +kernel
theorem f_x_draw : FnScope n_x_draw p_x_draw (defScope s_x_draw) := ⟨rfl, rfl, rfl, by decide +kernel, rfl, by decide +kernel, by decide +kernel⟩
theorem b_x_draw : ∀ kV dc pm an cd ct, Bnd (PySem.W.fnOf "_law_draw" "_law_draw" (defArgs s_x_draw) (defBody s_x_draw) (defScope s_x_draw) .none kV dc pm an cd ct) p_x_draw t_x_draw := fun _ _ _ _ _ _ => ⟨fun us h => by match us, h with | [_, _], _ => rfl, fun p hp us ws h1 h2 => by
  cases hp⟩
theorem c_x_pick : kSs (ck 19 n_x_pick) (defScope s_x_pick) i_x_pick (defBody s_x_pick) = true := by decide +kernel
theorem f_x_pick : FnScope n_x_pick p_x_pick (defScope s_x_pick) := ⟨rfl, rfl, rfl, by decide +kernel, rfl, by decide +kernel, by decide +kernel⟩
theorem b_x_pick : ∀ kV dc pm an cd ct, Bnd (PySem.W.fnOf "_law_pick" "_law_pick" (defArgs s_x_pick) (defBody s_x_pick) (defScope s_x_pick) .none kV dc pm an cd ct) p_x_pick t_x_pick := fun _ _ _ _ _ _ => ⟨fun us h => by match us, h with | [_, _], _ => rfl, fun p hp us ws h1 h2 => by
  cases hp⟩
theorem c_x_far : kSs (ck 20 n_x_far) (defScope s_x_far) i_x_far (defBody s_x_far) = true := by decide +kernel
theorem f_x_far : FnScope n_x_far p_x_far (defScope s_x_far) := ⟨rfl, rfl, rfl, by decide +kernel, rfl, by decide +kernel, by decide +kernel⟩
theorem b_x_far : ∀ kV dc pm an cd ct, Bnd (PySem.W.fnOf "_law_far" "_law_far" (defArgs s_x_far) (defBody s_x_far) (defScope s_x_far) .none kV dc pm an cd ct) p_x_far t_x_far := fun _ _ _ _ _ _ => ⟨fun us h => by match us, h with | [_, _, _], _ => rfl, fun p hp us ws h1 h2 => by
  cases hp⟩
theorem c_x_passes : kSs (ck 22 n_x_passes) (defScope s_x_passes) i_x_passes (defBody s_x_passes) = true := by decide +kernel
theorem f_x_passes : FnScope n_x_passes p_x_passes (defScope s_x_passes) := ⟨rfl, rfl, rfl, by decide +kernel, rfl, by decide +kernel, by decide +kernel⟩
theorem b_x_passes : ∀ kV dc pm an cd ct, Bnd (PySem.W.fnOf "_law_passes" "_law_passes" (defArgs s_x_passes) (defBody s_x_passes) (defScope s_x_passes) .none kV dc pm an cd ct) p_x_passes t_x_passes := fun _ _ _ _ _ _ => ⟨fun us h => by match us, h with | [_, _], _ => rfl, fun p hp us ws h1 h2 => by
  cases hp⟩
theorem c_x_pairs : kSs (ck 22 n_x_pairs) (defScope s_x_pairs) i_x_pairs (defBody s_x_pairs) = true := by decide +kernel
theorem f_x_pairs : FnScope n_x_pairs p_x_pairs (defScope s_x_pairs) := ⟨rfl, rfl, rfl, by decide +kernel, rfl, by decide +kernel, by decide +kernel⟩
theorem b_x_pairs : ∀ kV dc pm an cd ct, Bnd (PySem.W.fnOf "_law_pairs" "_law_pairs" (defArgs s_x_pairs) (defBody s_x_pairs) (defScope s_x_pairs) .none kV dc pm an cd ct) p_x_pairs t_x_pairs := fun _ _ _ _ _ _ => ⟨fun us h => by match us, h with | [_, _], _ => rfl, fun p hp us ws h1 h2 => by
  cases hp⟩
theorem c_x_sieve : kSs (ck 23 n_x_sieve) (defScope s_x_sieve) i_x_sieve (defBody s_x_sieve) = true := by decide +kernel
theorem f_x_sieve : FnScope n_x_sieve p_x_sieve (defScope s_x_sieve) := ⟨rfl, rfl, rfl, by decide +kernel, rfl, by decide +kernel, by decide +kernel⟩
theorem b_x_sieve : ∀ kV dc pm an cd ct, Bnd (PySem.W.fnOf "_law_sieve" "_law_sieve" (defArgs s_x_sieve) (defBody s_x_sieve) (defScope s_x_sieve) .none kV dc pm an cd ct) p_x_sieve t_x_sieve := fun _ _ _ _ _ _ => ⟨fun us h => by match us, h with | [_], _ => rfl, fun p hp us ws h1 h2 => by
  cases hp⟩
theorem c_x_vector : kSs (ck 24 n_x_vector) (defScope s_x_vector) i_x_vector (defBody s_x_vector) = true := by decide +kernel
theorem f_x_vector : FnScope n_x_vector p_x_vector (defScope s_x_vector) := ⟨rfl, rfl, rfl, by decide +kernel, rfl, by decide +kernel, by decide +kernel⟩
theorem b_x_vector : ∀ kV dc pm an cd ct, Bnd (PySem.W.fnOf "_law_vector" "_law_vector" (defArgs s_x_vector) (defBody s_x_vector) (defScope s_x_vector) .none kV dc pm an cd ct) p_x_vector t_x_vector := fun _ _ _ _ _ _ => ⟨fun us h => by match us, h with | [_, _], _ => rfl, fun p hp us ws h1 h2 => by
  cases hp⟩
theorem c_x_item : kSs (ck 25 n_x_item) (defScope s_x_item) i_x_item (defBody s_x_item) = true := by decide +kernel
theorem f_x_item : FnScope n_x_item p_x_item (defScope s_x_item) := ⟨rfl, rfl, rfl, by decide +kernel, rfl, by decide +kernel, by decide +kernel⟩
theorem b_x_item : ∀ kV dc pm an cd ct, Bnd (PySem.W.fnOf "_law_item" "_law_item" (defArgs s_x_item) (defBody s_x_item) (defScope s_x_item) .none kV dc pm an cd ct) p_x_item t_x_item := fun _ _ _ _ _ _ => ⟨fun us h => by match us, h with | [_, _, _], _ => rfl, fun p hp us ws h1 h2 => by
  cases hp⟩
theorem c_x_question : kSs (ck 26 n_x_question) (defScope s_x_question) i_x_question (defBody s_x_question) = true := by decide +kernel
theorem f_x_question : FnScope n_x_question p_x_question (defScope s_x_question) := ⟨rfl, rfl, rfl, by decide +kernel, rfl, by decide +kernel, by decide +kernel⟩
theorem b_x_question : ∀ kV dc pm an cd ct, Bnd (PySem.W.fnOf "_law_question" "_law_question" (defArgs s_x_question) (defBody s_x_question) (defScope s_x_question) .none kV dc pm an cd ct) p_x_question t_x_question := fun _ _ _ _ _ _ => ⟨fun us h => by match us, h with | [_, _, _], _ => rfl, fun p hp us ws h1 h2 => by
  cases hp⟩
theorem c_x_start : kSs (ck 27 n_x_start) (defScope s_x_start) i_x_start (defBody s_x_start) = true := by decide +kernel
theorem f_x_start : FnScope n_x_start p_x_start (defScope s_x_start) := ⟨rfl, rfl, rfl, by decide +kernel, rfl, by decide +kernel, by decide +kernel⟩
theorem b_x_start : ∀ kV dc pm an cd ct, Bnd (PySem.W.fnOf "_law_start" "_law_start" (defArgs s_x_start) (defBody s_x_start) (defScope s_x_start) .none kV dc pm an cd ct) p_x_start t_x_start := fun _ _ _ _ _ _ => ⟨fun us h => by match us, h with | [_, _, _], _ => rfl, fun p hp us ws h1 h2 => by
  cases hp⟩
theorem c_x_deed : kSs (ck 28 n_x_deed) (defScope s_x_deed) i_x_deed (defBody s_x_deed) = true := by decide +kernel
theorem f_x_deed : FnScope n_x_deed p_x_deed (defScope s_x_deed) := ⟨rfl, rfl, rfl, by decide +kernel, rfl, by decide +kernel, by decide +kernel⟩
theorem b_x_deed : ∀ kV dc pm an cd ct, Bnd (PySem.W.fnOf "_law_deed" "_law_deed" (defArgs s_x_deed) (defBody s_x_deed) (defScope s_x_deed) .none kV dc pm an cd ct) p_x_deed t_x_deed := fun _ _ _ _ _ _ => ⟨fun us h => by match us, h with | [_, _, _, _], _ => rfl, fun p hp us ws h1 h2 => by
  cases hp⟩
theorem c_x_done : kSs (ck 29 n_x_done) (defScope s_x_done) i_x_done (defBody s_x_done) = true := by decide +kernel
theorem f_x_done : FnScope n_x_done p_x_done (defScope s_x_done) := ⟨rfl, rfl, rfl, by decide +kernel, rfl, by decide +kernel, by decide +kernel⟩
theorem b_x_done : ∀ kV dc pm an cd ct, Bnd (PySem.W.fnOf "_law_done" "_law_done" (defArgs s_x_done) (defBody s_x_done) (defScope s_x_done) .none kV dc pm an cd ct) p_x_done t_x_done := fun _ _ _ _ _ _ => ⟨fun us h => by match us, h with | [_, _], _ => rfl, fun p hp us ws h1 h2 => by
  cases hp⟩
theorem c_x_news : kSs (ck 30 n_x_news) (defScope s_x_news) i_x_news (defBody s_x_news) = true := by decide +kernel
theorem f_x_news : FnScope n_x_news p_x_news (defScope s_x_news) := ⟨rfl, rfl, rfl, by decide +kernel, rfl, by decide +kernel, by decide +kernel⟩
theorem b_x_news : ∀ kV dc pm an cd ct, Bnd (PySem.W.fnOf "_law_news" "_law_news" (defArgs s_x_news) (defBody s_x_news) (defScope s_x_news) .none kV dc pm an cd ct) p_x_news t_x_news := fun _ _ _ _ _ _ => ⟨fun us h => by match us, h with | [_, _], _ => rfl, fun p hp us ws h1 h2 => by
  cases hp⟩
theorem c_x_due : kSs (ck 31 n_x_due) (defScope s_x_due) i_x_due (defBody s_x_due) = true := by decide +kernel
theorem f_x_due : FnScope n_x_due p_x_due (defScope s_x_due) := ⟨rfl, rfl, rfl, by decide +kernel, rfl, by decide +kernel, by decide +kernel⟩
theorem b_x_due : ∀ kV dc pm an cd ct, Bnd (PySem.W.fnOf "_law_due" "_law_due" (defArgs s_x_due) (defBody s_x_due) (defScope s_x_due) .none kV dc pm an cd ct) p_x_due t_x_due := fun _ _ _ _ _ _ => ⟨fun us h => by match us, h with | [_, _, _], _ => rfl, fun p hp us ws h1 h2 => by
  cases hp⟩
theorem c_x_run : kSs (ck 32 n_x_run) (defScope s_x_run) i_x_run (defBody s_x_run) = true := by decide +kernel
theorem f_x_run : FnScope n_x_run p_x_run (defScope s_x_run) := ⟨rfl, rfl, rfl, by decide +kernel, rfl, by decide +kernel, by decide +kernel⟩
theorem b_x_run : ∀ kV dc pm an cd ct, Bnd (PySem.W.fnOf "_law_run" "_law_run" (defArgs s_x_run) (defBody s_x_run) (defScope s_x_run) .none kV dc pm an cd ct) p_x_run t_x_run := fun _ _ _ _ _ _ => ⟨fun us h => by match us, h with | [_, _, _, _], _ => rfl, fun p hp us ws h1 h2 => by
  cases hp⟩
theorem c_law : kSs (ck 33 n_law) (defScope s_law) i_law (defBody s_law) = true := by decide +kernel
theorem f_law : FnScope n_law p_law (defScope s_law) := ⟨rfl, rfl, rfl, by decide +kernel, rfl, by decide +kernel, by decide +kernel⟩
theorem b_law : ∀ kV dc pm an cd ct, ∀ (s : Shared) (u : Value), BindsTo s (PySem.W.fnOf "law" "law" (defArgs s_law) (defBody s_law) (defScope s_law) .none kV dc pm an cd ct) ⟨[u], []⟩ [("_law_script", u)] := fun _ _ _ _ _ _ _ _ => .of_eq rfl
end K77


namespace K77
open PySem L2 M
local macro_rules | `(tactic| walk_at "M.s") => `(tactic| first
  | ((with_reducible refine' E_var ?h ?k); (case h => exact rfl))
  | ((with_reducible refine Tg_nm ?_); (try dsimp only [List.set, wipeD]))
  | with_reducible (refine Ss_at ?_; assumption)
  | with_reducible refine Ss_cons ?_
  | with_reducible refine S_asg ?_
  | with_reducible refine E_bin ?_
  | with_reducible refine E_cmp ?_
  | with_reducible refine Es_cons ?_
  | with_reducible refine E_cst ?_
  | with_reducible refine Es_nil ?_
  | with_reducible refine E_call ?_
  | with_reducible refine E_or ?_
  | with_reducible refine E_and ?_
  | with_reducible refine E_not ?_
  | with_reducible refine E_ite ?_
  | with_reducible refine E_bi ?_
  | with_reducible refine S_ite ?_
  | with_reducible refine S_ret ?_
  | with_reducible refine B_bl ?_
  | with_reducible refine V_add ?_
  | with_reducible refine V_sub ?_
  | with_reducible refine V_eqI ?_
  | with_reducible refine V_neI ?_
  | with_reducible refine V_eqX ?_
  | with_reducible refine V_neX ?_
  | with_reducible refine V_eqS ?_
  | with_reducible refine V_neS ?_
  | with_reducible refine V_lt ?_
  | with_reducible refine V_le ?_
  | with_reducible refine V_gt ?_
  | with_reducible refine V_ge ?_
  | with_reducible refine V_eqB ?_
  | with_reducible refine V_neB ?_
  | with_reducible refine E_ix ?_
  | with_reducible refine E_tup ?_
  | with_reducible refine E_lst ?_
  | with_reducible refine L_F ?_
  | with_reducible refine L_T ?_
  | with_reducible refine E_neg ?_
  | with_reducible refine V_neg ?_
  | with_reducible refine E_sl ?_
  | with_reducible refine O_no ?_
  | with_reducible refine O_so ?_
  | with_reducible refine O_int ?_
  | with_reducible refine E_rv ?_
  | with_reducible refine E_bl ?_
  | with_reducible refine E_callK ?_
  | with_reducible refine E_me ?_
  | with_reducible refine E_cmp2 ?_
  | with_reducible refine T_no ?_
  | with_reducible refine T_so ?_
  | with_reducible refine I_seq ?_
  | with_reducible refine I_rng ?_
  | with_reducible refine Src_tup ?_
  | with_reducible refine Src_tx ?_
  | with_reducible refine Src_lst ?_
  | with_reducible refine Src_rol ?_
  | with_reducible refine Tg_ix ?_
  | with_reducible refine Tgs_nil ?_
  | with_reducible refine Tgs_cons ?_
  | with_reducible refine S_par ?_
  | with_reducible refine S_ex ?_
  | with_reducible refine S_retN ?_
  | with_reducible refine S_for ?_
  | with_reducible refine E_lc ?_
  | with_reducible refine E_lr ?_
  | with_reducible refine E_mxd ?_
  | with_reducible refine E_isi ?_
  | with_reducible refine I_enu ?_
  | with_reducible refine I_zip ?_
  | with_reducible refine I_zip3 ?_
  | with_reducible refine I_zipn ?_
  | with_reducible refine E_callS ?_
  | with_reducible refine S_whl ?_
  | with_reducible refine S_pass ?_
  | with_reducible refine S_brk ?_
  | with_reducible refine S_cont ?_
  | with_reducible refine Ss_nil ?_
  | with_reducible refine S_raise ?_
  | with_reducible refine S_tryAs ?_
  | with_reducible refine S_tryOn ?_
  | with_reducible refine E_fld ?_
  | ((with_reducible refine' E_lcd ?h ?k); (case h => exact rfl))
  | with_reducible refine E_dvl ?_
  | with_reducible refine V_dvlV ?_
  | with_reducible refine E_mth ?_
  | ((with_reducible refine' V_fld ?h ?hc ?hl ?k); (case h => with_reducible assumption); (case hc => decide +kernel); (case hl => exact rfl))
  | ((with_reducible refine' V_setF ?h ?hc ?hl ?q); (case h => with_reducible assumption); (case hc => decide +kernel); (case hl => decide +kernel))
  | ((with_reducible refine' V_mth ?h ?hl ?hm ?q); (case h => with_reducible assumption); (case hl => exact rfl); (case hm => decide +kernel))
  | with_reducible refine E_mkc ?_
  | with_reducible refine Tg_at ?_
  | with_reducible refine S_tryAs2 ?_
  | with_reducible refine E_dsp ?_
  | with_reducible refine Dc_F ?_
  | with_reducible refine Dc_T ?_
  | with_reducible refine E_kin ?_
  | with_reducible refine E_sm ?_
  | with_reducible refine A_str ?_
  | with_reducible refine E_fs ?_
  | with_reducible refine Fs_nil ?_
  | with_reducible refine Fs_cons ?_
  | ((with_reducible refine F_tx ?h ?k); (case' h => try (first | omega | (simp; done) | (simp; omega))))
  | ((with_reducible refine F_nat ?hn ?h ?k); (case' hn => try omega); (case' h => try (first | omega | (simp; done) | (simp; omega))))
  | ((with_reducible refine V_addX ?h ?k); (case' h => try (first | omega | (simp; done) | (simp; omega))))
  | ((with_reducible refine V_lenS ?h ?k); (case' h => try (first | omega | (simp; done) | (simp; omega))))
  | ((with_reducible refine V_slS ?h ?k); (case' h => try (first | omega | (simp; done) | (simp; omega))))
  | ((with_reducible refine V_strN ?h ?k); (case' h => try omega))
  | with_reducible refine V_starts ?_
  | with_reducible refine V_ends ?_
  | with_reducible refine V_inS ?_
  | with_reducible refine V_niS ?_
  | with_reducible refine K_in ?_
  | ((with_reducible refine' S_forD ?h ?k); (case h => exact rfl))
  | with_reducible refine E_xat ?_
  | with_reducible refine E_xis ?_
  | with_reducible refine E_xit ?_
  | ((with_reducible refine' V_xat ?h ?k); (case h => exact rfl))
  | ((with_reducible refine' V_xis ?h ?k); (case h => exact rfl))
  | ((with_reducible refine' V_xit ?h ?k); (case h => exact rfl))
  | with_reducible refine V_abs ?_
  | with_reducible refine V_max2 ?_
  | with_reducible refine V_min2 ?_
  | with_reducible refine V_max3 ?_
  | with_reducible refine V_int ?_
  | with_reducible refine V_intB ?_
  | with_reducible refine V_reprB ?_
  | with_reducible refine V_tupT ?_
  | ((with_reducible refine V_lenT ?_); (try simp only [List.length_map, List.length_range, List.length_cons, List.length_nil, Nat.reduceAdd]))
  | ((with_reducible refine V_lenL ?_); (try simp only [List.length_map, List.length_range, List.length_cons, List.length_nil, Nat.reduceAdd]))
  | ((with_reducible refine V_lenR ?_); (try simp only [List.length_map, List.length_range, List.length_cons, List.length_nil, Nat.reduceAdd]))
  | with_reducible refine V_tupL ?_
  | with_reducible refine V_tupR ?_
  | with_reducible refine V_listT ?_
  | with_reducible refine V_listL ?_
  | with_reducible refine V_listR ?_
  | with_reducible refine V_slL ?_
  | with_reducible refine V_slR ?_
  | with_reducible refine V_rvL ?_
  | with_reducible refine V_rvR ?_
  | with_reducible refine A_someL ?_
  | with_reducible refine A_some0 ?_
  | with_reducible refine A_some1 ?_
  | ((with_reducible refine' V_ixT ?h ?k); (case h => with_reducible (first | exact atI_0 _ _ | exact atI_1 _ _ _ | exact atI_2 _ _ _ _ | exact atI_3 _ _ _ _ _ | exact atI_4 _ _ _ _ _ _ | exact atI_end _ _ | exact atI_get (by omega) | exact atI_in ⟨by omega, by omega⟩)))
  | ((with_reducible refine' V_ixL ?h ?k); (case h => with_reducible (first | exact atI_0 _ _ | exact atI_1 _ _ _ | exact atI_2 _ _ _ _ | exact atI_3 _ _ _ _ _ | exact atI_4 _ _ _ _ _ _ | exact atI_end _ _ | exact atI_get (by omega) | exact atI_in ⟨by omega, by omega⟩)))
  | ((with_reducible refine' V_ixR ?h ?k); (case h => with_reducible (first | exact atI_0 _ _ | exact atI_1 _ _ _ | exact atI_2 _ _ _ _ | exact atI_3 _ _ _ _ _ | exact atI_4 _ _ _ _ _ _ | exact atI_end _ _ | exact atI_get (by omega) | exact atI_in ⟨by omega, by omega⟩)))
  | ((with_reducible refine' V_ix0 ?h ?k); (case h => with_reducible (first | exact atI_0 _ _ | exact atI_1 _ _ _ | exact atI_2 _ _ _ _ | exact atI_3 _ _ _ _ _ | exact atI_4 _ _ _ _ _ _ | exact atI_end _ _ | exact atI_get (by omega) | exact atI_in ⟨by omega, by omega⟩)))
  | ((with_reducible refine' V_ix1 ?h ?k); (case h => with_reducible (first | exact atI_0 _ _ | exact atI_1 _ _ _ | exact atI_2 _ _ _ _ | exact atI_3 _ _ _ _ _ | exact atI_4 _ _ _ _ _ _ | exact atI_end _ _ | exact atI_get (by omega) | exact atI_in ⟨by omega, by omega⟩)))
  | with_reducible refine V_slT ?_
  | with_reducible refine V_isB ?_
  | with_reducible refine V_isN ?_
  | with_reducible refine V_isNotN ?_
  | with_reducible refine U_add ?_
  | with_reducible refine U_sub ?_
  | with_reducible refine if_t ?_
  | with_reducible refine if_f ?_
  | with_reducible refine if_nt ?_
  | with_reducible refine if_nf ?_
  | ((with_reducible refine A_sz ?h ?k); (case h => first | exact Nat.le_of_ble_eq_true rfl | (simp; done) | (simp; omega)))
  | ((with_reducible refine' E_glb ?h ?k); (case h => exact rfl))
  | ((with_reducible refine' S_aug ?h ?k); (case h => exact rfl))
  | ((with_reducible refine V_mul ?h ?_); (case' h => try (first | with_reducible assumption | exact .inl (by omega) | exact .inr (.inl (by omega)))))
  | ((with_reducible refine U_mul ?h ?_); (case' h => try (first | with_reducible assumption | exact .inl (by omega) | exact .inr (.inl (by omega)))))
  | ((with_reducible refine V_div ?h ?_); (case' h => try (first | with_reducible assumption | exact divOk_of (by omega) (by omega))))
  | ((with_reducible refine V_mod ?h ?_); (case' h => try (first | with_reducible assumption | omega)))
  | ((with_reducible refine V_pow ?h ?k); (case' h => try (exact ⟨by omega, by omega, by omega⟩)); (case' k => try simp only [Int.reduceToNat, Int.reducePow]))
  | ((with_reducible refine V_isqrt ?h ?_); (case' h => try (first | with_reducible assumption | exact isqrtOk_of (by omega) (by omega))))
  | ((with_reducible refine V_reprI ?h ?_); (case' h => try (first | with_reducible assumption | omega)))
  | ((with_reducible refine Tg_tp ?h ?k); (case h => exact rfl))
  | ((with_reducible refine R_1 ?h ?k); (case' h => try omega); (case' k => try simp only [Int.toNat_natCast, Int.reduceToNat]))
  | ((with_reducible refine R_2 ?h ?k); (case' h => try omega); (case' k => try simp only [Int.toNat_natCast, Int.reduceToNat]))
  | ((with_reducible refine' C_call (by assumption) ?_); (try simp only [pmut, List.nil_append, List.cons_append, List.filterMap_cons, List.filterMap_nil, List.getElem?_cons_zero, List.getElem?_cons_succ]))
  | ((with_reducible refine' C_callN (by assumption) ?_); (try simp only [pmut, List.nil_append, List.cons_append, List.filterMap_cons, List.filterMap_nil, List.getElem?_cons_zero, List.getElem?_cons_succ]))
  | ((with_reducible refine A_eq ?h ?k); (case h => first | exact rfl | (simp; done)))
  | ((with_reducible refine' X_1 ?h ?k); (case h => exact rfl))
  | ((with_reducible refine' X_2 ?h ?h2 ?k); (case h => exact rfl); (case h2 => exact rfl))
  | ((with_reducible refine' X_3 ?h ?h2 ?h3 ?k); (case h => exact rfl); (case h2 => exact rfl); (case h3 => exact rfl))
  | ((with_reducible refine' V_isi ?h ?k); (case h => with_reducible exact rfl))
  | ((with_reducible refine V_lr1 ?h ?k); (case' h => try omega))
  | walk_at "M.x")
local macro_rules | `(tactic| walk_at "M.w") => `(tactic| repeat' walk_at "M.s")

def cell (c : Int) : Int := 2 * (c.natAbs : Int) + if c < 0 then 1 else 0
def m_x_heap : MSp := fun ds S F _ => ∃ ns : List Int, ds = [.rol (ns.map .int)] ∧ S = [] ∧ ns.length ≤ 63 ∧ ∀ S', GoodH [] S' → F (.ref 1) S'
theorem h_x_heap {fs : List MSp}  : Kp fs glD i_x_heap n_x_heap.length p_x_heap.length m_x_heap := by
  intro ds S0 F Y h _ _
  obtain ⟨ns, rfl, rfl, hn, hF⟩ := h
  simp only [startD, List.map_cons, List.map_nil, List.length_cons, List.length_nil, List.cons_append, List.nil_append, Nat.reduceAdd, Nat.reduceSub, List.replicate]
  walk_at "M.w"
  rw [show (60 : Int) = ((60 : Nat) : Int) from rfl, cutTake]
  generalize hms : ns.take 60 = ms
  have hml : ms.length ≤ 60 := by rw [← hms]; simp; omega
  refine Lc_map (as := ms) (inj := .int) (fun c => .int (cell c)) (by omega) trivial (fun c _ P hP => ?_) ?_
  · walk_at "M.w"
    simpa [cell] using hP
  walk_at "M.w"
  have hc0 : ∀ c, 0 ≤ cell c := by intro c; unfold cell; split <;> omega
  refine For_all (as := ms) (inj := fun c => .int (cell c)) (fun e S => S = [] ∧ ∃ st y, 0 ≤ st ∧ st < 2147483647 ∧ e = [some (.rol (ns.map .int)), some (.lst (ms.map fun c => .int (cell c))), some (.int st), y]) ⟨rfl, _, none, by decide, by decide, rfl⟩ ?_ ?_
  · rintro e S ⟨rfl, st, y, h0, h1, rfl⟩
    walk_at "M.w"
    have e1 : (ms.map fun c => D.int (cell c)) = (ms.map cell).map .int := by rw [List.map_map]; rfl
    rw [e1]
    refine Lc_filter (as := ms.map cell) (inj := .int) (fun c => decide ((10 : Int) ^ 18 ≤ c)) .int (by simp; omega) trivial (fun c _ P R hP hR => ?_) ?_
    · walk_at "M.w"
      exact if_C hP hR
    walk_at "M.w"
    generalize hf : (ms.map cell).filter (fun c => decide ((10 : Int) ^ 18 ≤ c)) = as
    have hal : as.length ≤ 60 := by rw [← hf]; exact Nat.le_trans (List.length_filter_le _ _) (by simpa using hml)
    have has : ∀ c ∈ as, 0 ≤ c := by
      intro c hc
      rw [← hf] at hc
      obtain ⟨z, _, rfl⟩ := List.mem_map.mp (List.mem_filter.mp hc).1
      exact hc0 z
    have g : GoodH [] [.lst (as.map D.int).reverse, .lst [.ref 0, .int st]] := ⟨as.reverse, st, by simp [List.map_reverse], by simpa using has, by simp; omega, h0, h1⟩
    exact g.finNil (by show (1 : Nat) < 2; omega) (hF _ g)
  · rintro c e S _ ⟨rfl, st, y, h0, h1, rfl⟩
    walk_at "M.w"
    exact ⟨rfl, _, _, Int.emod_nonneg _ (by omega), Int.emod_lt_of_pos _ (by omega), rfl⟩
theorem u_x_heap {ns : List Int} {F Y : Post} (hn : ns.length ≤ 63) (hF : ∀ S', GoodH [] S' → F (.ref 1) S') : m_x_heap [.rol (ns.map .int)] [] F Y := ⟨ns, rfl, rfl, hn, hF⟩
local macro_rules | `(tactic| walk_at "M.x") => `(tactic| ((with_reducible refine' u_x_heap ?h0 ?k); (case' h0 => try first | with_reducible assumption | omega | (exact ⟨by omega, by omega⟩))))
def m_x_draw : MSp := fun ds S F _ => ∃ many T, ds = [.ref 1, .int many] ∧ 0 < many ∧ many < 2 ^ 62 ∧ GoodH T S ∧ ∀ r S', 0 ≤ r → r < many → GoodH T S' → F (.int r) S'
theorem u_x_draw {many : Int} {S T : Store} {F Y : Post} (h0 : 0 < many) (h1 : many < 2 ^ 62) (g : GoodH T S) (hF : ∀ r S', 0 ≤ r → r < many → GoodH T S' → F (.int r) S') : m_x_draw [.ref 1, .int many] S F Y := ⟨many, T, rfl, h0, h1, g, hF⟩
theorem ne_nil_D (xs : List D) (d : D) (h : pds (xs ++ [d]) = true) (h2 : PyData.depthAll (toPs (xs ++ [d])) ≤ 50) : okD (.lst (xs ++ [d])) := ⟨h, by simp only [toP, PyData.depth]; omega⟩
theorem h_x_draw {fs : List MSp}  : Kp fs glD i_x_draw n_x_draw.length p_x_draw.length m_x_draw := by
  intro ds S0 F Y h _ _
  obtain ⟨many, T, rfl, hm, hm2, g0, hF⟩ := h
  simp only [startD, List.map_cons, List.map_nil, List.length_cons, List.length_nil, List.cons_append, List.nil_append, Nat.reduceAdd, Nat.reduceSub, List.replicate]
  walk_at "M.w"
  obtain ⟨cs, st, e0, h1, h2, h3, h4⟩ := id g0
  refine While_by (m0 := cs.length) (fun m e S => e = [some (.ref 1), some (.int many), none] ∧ ∃ (cs : List Int) (st : Int), S = .lst (cs.map .int) :: .lst [.ref 0, .int st] :: T ∧ m = cs.length ∧ (∀ c ∈ cs, 0 ≤ c) ∧ cs.length ≤ 60 ∧ 0 ≤ st ∧ st < 2147483647) ⟨rfl, cs, st, e0, rfl, h1, h2, h3, h4⟩ ?_
  clear h1 h2 h3 h4
  rintro m e S ⟨rfl, cs, st, rfl, rfl, h1, h2, h3, h4⟩
  rcases List.eq_nil_or_concat cs with rfl | ⟨ini, las, rfl⟩
  · walk_at "M.w"
    refine V_neNil (cs := []) rfl ?_
    walk_at "M.w"
    refine if_F rfl ?_
    walk_at "M.w"
    refine V_neNil (cs := []) rfl ?_
    walk_at "M.w"
    refine if_F rfl ?_
    walk_at "M.w"
    refine V_set rfl ixN_1 ?_
    simp only [List.set_cons_succ, List.set_cons_zero]
    walk_at "M.w"
    have g : ∀ z : Int, GoodH T (.lst [] :: .lst [.ref 0, .int (z % 2147483647)] :: T) := fun z => ⟨[], _, rfl, by simp, by simp, Int.emod_nonneg _ (by omega), Int.emod_lt_of_pos _ (by omega)⟩
    exact (g _).fin g0 trivial (hF _ _ (Int.emod_nonneg _ (by omega)) (Int.emod_lt_of_pos _ hm) (g _))
  · rw [List.concat_eq_append] at *
    have hn : (!decide (ini ++ [las] = [])) = true := by simp
    have am : atI ((ini ++ [las]).map D.int) (-1) = some (.int las) := by simp [atI_end]
    have hl : 0 ≤ las := h1 las (by simp)
    have pp : ((ini ++ [las]).map D.int)[((ini ++ [las]).map D.int).length - 1]? = some (.int las) := by simp
    have dl : ((ini ++ [las]).map D.int).dropLast = ini.map D.int := by simp
    have hlen : ini.length < 60 := by simp at h2; omega
    have rest : wSs l_x_draw_3 ⟨fs, glD, FX S0 Y, none⟩ (EndK S0 F) [some (.ref 1), some (.int many), none] (.lst ((ini ++ [las]).map .int) :: .lst [.ref 0, .int st] :: T) := by
      walk_at "M.w"
      refine V_neNil rfl ?_
      walk_at "M.w"
      refine if_T hn ?_
      walk_at "M.w"
      refine V_pop rfl pp ?_
      rw [dl]
      walk_at "M.w"
      refine V_append rfl (by simp; omega) ?_
      walk_at "M.w"
      have g : GoodH T (.lst (ini.map .int ++ [.int (las / many)]) :: .lst [.ref 0, .int st] :: T) := ⟨ini ++ [las / many], st, by simp, fun c hc => by
        rcases List.mem_append.mp hc with q | q
        · exact h1 c (by simp [q])
        · simp at q; subst q; exact Int.ediv_nonneg hl (by omega), by simp; omega, h3, h4⟩
      exact g.fin g0 trivial (hF _ _ (Int.emod_nonneg _ (by omega)) (Int.emod_lt_of_pos _ hm) g)
    walk_at "M.w"
    refine V_neNil rfl ?_
    walk_at "M.w"
    refine if_T hn ?_
    walk_at "M.w"
    refine V_ix rfl am ?_
    walk_at "M.w"
    refine if_C (fun _ => ?_) fun _ => rest
    walk_at "M.w"
    refine V_pop rfl pp ?_
    rw [dl]
    walk_at "M.w"
    exact ⟨ini.length, by simp, rfl, ini, st, rfl, rfl, fun c hc => h1 c (by simp [hc]), by omega, h3, h4⟩
local macro_rules | `(tactic| walk_at "M.x") => `(tactic| ((with_reducible refine' u_x_draw ?h0 ?h1 ?h2 ?k); (case' h0 => try first | with_reducible assumption | omega | (exact ⟨by omega, by omega⟩)); (case' h1 => try first | with_reducible assumption | omega | (exact ⟨by omega, by omega⟩)); (case' h2 => try first | with_reducible assumption | omega | (exact ⟨by omega, by omega⟩))))
def m_x_pick : MSp := fun ds S F _ => ∃ x xs T, ds = [.ref 1, x] ∧ 0 < xs.length ∧ xs.length < 2 ^ 62 ∧ GoodH T S ∧ (∀ S', GoodH T S' → sqOf S' x = some xs) ∧ ∀ d, d ∈ xs → ∀ S', GoodH T S' → F d S'
theorem h_x_pick {fs : List MSp} (q_x_draw : fs[K_x_draw]? = some m_x_draw) : Kp fs glD i_x_pick n_x_pick.length p_x_pick.length m_x_pick := by
  intro ds S0 F Y h lw _
  obtain ⟨x, xs, T, rfl, h1, h2, g, hq, hF⟩ := h
  have q0 := hq S0 g
  simp only [i_x_pick, wSs, wS, wE, wEs, startD, List.map_cons, List.map_nil, List.length_cons, List.length_nil, List.cons_append, List.nil_append, List.getElem?_cons_zero, List.getElem?_cons_succ, Nat.reduceAdd, Nat.reduceSub, List.replicate, wCall, q_x_draw]
  rw [wBi_len q0]
  refine ⟨_, T, rfl, by omega, by omega, g, fun r S' r0 r1 g' => ?_⟩
  refine (wIx_sq (hq S' g')).mpr ?_
  obtain ⟨d, hd, e⟩ := atI_int r0 r1
  refine ⟨d, e, g'.fin g ?_ (hF d hd S' g')⟩
  have := lw_sq lw (show x ∈ [D.ref 1, x] by simp) q0 d hd
  rwa [g.len] at this
theorem pick_L {T S : Store} {xs : List D} {F Y : Post} (g : GoodH T S) (h0 : 0 < xs.length) (h1 : xs.length < 2 ^ 62) (hF : ∀ d, d ∈ xs → ∀ S', GoodH T S' → F d S') : m_x_pick [.ref 1, .lst xs] S F Y :=
  ⟨_, xs, T, rfl, h0, h1, g, fun S' g => rfl, hF⟩
theorem pick_T {T S : Store} {xs : List D} {F Y : Post} (g : GoodH T S) (h0 : 0 < xs.length) (h1 : xs.length < 2 ^ 62) (hF : ∀ d, d ∈ xs → ∀ S', GoodH T S' → F d S') : m_x_pick [.ref 1, .tup xs] S F Y :=
  ⟨_, xs, T, rfl, h0, h1, g, fun S' g => rfl, hF⟩
/-- .. of integers -/
theorem pick_I {T S : Store} {lo hi : Int} {xs : List D} {F Y : Post} (g : GoodH T S) (h0 : 0 < xs.length) (h1 : xs.length < 2 ^ 62) (hx : ∀ d, d ∈ xs → ∃ c : Int, d = .int c ∧ lo ≤ c ∧ c ≤ hi) (hF : ∀ c S', lo ≤ c → c ≤ hi → GoodH T S' → F (.int c) S') : m_x_pick [.ref 1, .lst xs] S F Y :=
  pick_L g h0 h1 fun d hd S' g' => by obtain ⟨c, rfl, a, b⟩ := hx d hd; exact hF c S' a b g'

/-! distances, over plain lists -/
abbrev sSq : Str := "square"
abbrev sMo : Str := "most"
abbrev sUn : Str := "unlike"
def partOf (k : Str) (d : Int) : Int := if k = sSq then d * d else if k = sUn then (if d = 0 then 0 else 1) else (d.natAbs : Int)
def joinP (k : Str) (ps : List Int) : Int := if k = sMo then maxL ps else ps.sum
def diffs (v w : List Int) : List Int := (v.zip w).map fun p => p.1 - p.2
def dist (k : Str) (v w : List Int) : Int := joinP k ((diffs v w).map (partOf k))
def atP (v : List Int) (ps : List Int) : List Int := ps.map fun p => v.getD p.toNat 0
/-- a vector's integers are small -/
def VB (v : List Int) : Prop := v.length ≤ 1000 ∧ ∀ x ∈ v, x.natAbs < 2 ^ 28
theorem VB.diffs {v w : List Int} (h : VB v) (g : VB w) : (diffs v w).length ≤ 1000 ∧ ∀ d ∈ diffs v w, d.natAbs < 2 ^ 29 := by
  have h1 := h.1
  refine ⟨by
    show ((v.zip w).map fun p => p.1 - p.2).length ≤ 1000
    rw [List.length_map, List.length_zip]; omega, fun d hd => ?_⟩
  obtain ⟨⟨x, y⟩, hp, rfl⟩ := List.mem_map.mp hd
  obtain ⟨hx, hy⟩ := List.of_mem_zip hp
  have := h.2 x hx
  have := g.2 y hy
  show (x - y).natAbs < _
  omega
theorem mul_self_nn (x : Int) : 0 ≤ x * x := by
  rcases Int.le_total 0 x with h | h
  · exact Int.mul_nonneg h h
  · have : 0 ≤ (-x) * (-x) := Int.mul_nonneg (by omega) (by omega)
    have e : (-x) * (-x) = x * x := by grind
    omega
theorem partOf_nn {k : Str} {d : Int} : 0 ≤ partOf k d := by
  unfold partOf
  split
  · exact mul_self_nn d
  · split
    · split <;> omega
    · omega
theorem partOf_le {k : Str} {d : Int} (h : d.natAbs < 2 ^ 29) : partOf k d ≤ 2 ^ 58 := by
  unfold partOf
  split
  · have e : d * d = (d.natAbs : Int) * (d.natAbs : Int) := by
      have := Int.natAbs_mul_self (a := d)
      omega
    rw [e]
    have : (d.natAbs : Int) * (d.natAbs : Int) ≤ 2 ^ 29 * 2 ^ 29 := Int.mul_le_mul (by omega) (by omega) (by omega) (by omega)
    omega
  · split
    · split <;> omega
    · omega
theorem partOf_0 {k : Str} {d : Int} : partOf k d = 0 ↔ d = 0 := by
  unfold partOf
  split
  · constructor
    · intro h
      rcases Int.mul_eq_zero.mp h with q | q <;> exact q
    · intro h; subst h; rfl
  · split
    · split <;> omega
    · omega
theorem partOf_neg {k : Str} {d : Int} : partOf k (-d) = partOf k d := by
  unfold partOf
  have e : -d * -d = d * d := by grind
  rw [e]
  split
  · rfl
  · split
    · by_cases h : d = 0
      · subst h; rfl
      · rw [if_neg h, if_neg (by omega)]
    · omega
theorem partOf_nil0 {k : Str} : partOf k 0 = 0 := partOf_0.mpr rfl
def NN (ps : List Int) : Prop := ∀ p ∈ ps, 0 ≤ p
theorem NN.parts {k : Str} {ds : List Int} : NN (ds.map (partOf k)) := fun p hp => by
  obtain ⟨d, _, rfl⟩ := List.mem_map.mp hp
  exact partOf_nn
theorem sum_nn {ps : List Int} (h : NN ps) : 0 ≤ ps.sum := by
  induction ps with
  | nil => simp
  | cons p r ih =>
    have := h p (by simp)
    have := ih fun q hq => h q (by simp [hq])
    simp only [List.sum_cons]; omega
theorem maxL_nn {ps : List Int} (h : NN ps) : 0 ≤ maxL ps := by
  cases ps with
  | nil => simp [maxL]
  | cons p r => exact h _ (maxL_spec (by simp)).1
theorem joinP_nn {k : Str} {ps : List Int} (h : NN ps) : 0 ≤ joinP k ps := by
  unfold joinP
  split
  · exact maxL_nn h
  · exact sum_nn h
theorem sum_le {ps : List Int} {b : Int} (h : ∀ p ∈ ps, p ≤ b) : ps.sum ≤ ps.length * b := by
  induction ps with
  | nil => simp
  | cons p r ih =>
    have := h p (by simp)
    have := ih fun q hq => h q (by simp [hq])
    simp only [List.sum_cons, List.length_cons]
    have e : ((r.length + 1 : Nat) : Int) * b = r.length * b + b := by
      rw [show ((r.length + 1 : Nat) : Int) = (r.length : Int) + 1 by omega]; grind
    omega
theorem joinP_le {k : Str} {ps : List Int} {b : Int} (hb : 0 ≤ b) (hl : ps.length ≤ 1000) (h : ∀ p ∈ ps, p ≤ b) : joinP k ps ≤ 1000 * b := by
  unfold joinP
  split
  · cases ps with
    | nil => simp [maxL]; omega
    | cons p r =>
      have := h _ (maxL_spec (ns := p :: r) (by simp)).1
      omega
  · have := sum_le h
    have : (ps.length : Int) * b ≤ 1000 * b := Int.mul_le_mul_of_nonneg_right (by omega) hb
    omega
theorem dist_bd {k : Str} {v w : List Int} (h : VB v) (g : VB w) : 0 ≤ dist k v w ∧ dist k v w ≤ 1000 * 2 ^ 58 := by
  refine ⟨joinP_nn NN.parts, joinP_le (by omega) (by rw [List.length_map]; exact (h.diffs g).1) fun p hp => ?_⟩
  obtain ⟨d, hd, rfl⟩ := List.mem_map.mp hp
  exact partOf_le ((h.diffs g).2 d hd)
theorem maxL_app {ps : List Int} {p : Int} (h : NN ps) (hp : 0 ≤ p) : maxL (ps ++ [p]) = max (maxL ps) p := by
  refine maxL_is ?_ fun z hz => ?_
  · by_cases e : ps = []
    · subst e; simp [maxL]; omega
    · obtain ⟨m1, m2⟩ := maxL_spec e
      rcases Int.le_total p (maxL ps) with q | q
      · rw [Int.max_eq_left q]; exact List.mem_append_left _ m1
      · rw [Int.max_eq_right q]; simp
  · rcases List.mem_append.mp hz with q | q
    · have := (maxL_spec (List.ne_nil_of_mem q)).2 z q
      omega
    · simp at q; omega
theorem joinP_two {k : Str} {a b : Int} (hb : 0 ≤ b) : joinP k [a, b] = if k = sMo then max a b else a + b := by
  unfold joinP
  split
  · rfl
  · simp
theorem joinP_app {k : Str} {ps : List Int} {p : Int} (h : NN ps) (hp : 0 ≤ p) : joinP k (ps ++ [p]) = joinP k [joinP k ps, p] := by
  rw [joinP_two hp]
  unfold joinP
  split
  · exact maxL_app h hp
  · simp
theorem joinP_mono_app {k : Str} {ps qs : List Int} (h : NN ps) (g : NN qs) : joinP k ps ≤ joinP k (ps ++ qs) := by
  unfold joinP
  split
  · cases ps with
    | nil => have := maxL_nn (ps := [] ++ qs) (by simpa using g); simpa [maxL] using this
    | cons p r => exact (maxL_spec (ns := p :: r ++ qs) (by simp)).2 _ (List.mem_append_left _ (maxL_spec (by simp)).1)
  · rw [List.sum_append]; have := sum_nn g; omega
theorem sum_perm {ps qs : List Int} (h : ps.Perm qs) : ps.sum = qs.sum := by
  induction h with
  | nil => rfl
  | cons x _ ih => simp only [List.sum_cons, ih]
  | swap x y l => simp only [List.sum_cons]; omega
  | trans _ _ a b => exact a.trans b
theorem joinP_perm {k : Str} {ps qs : List Int} (h : ps.Perm qs) : joinP k ps = joinP k qs := by
  unfold joinP
  split
  · by_cases e : qs = []
    · subst e; rw [h.eq_nil]
    · obtain ⟨m1, m2⟩ := maxL_spec e
      exact maxL_is (h.mem_iff.mpr m1) fun z hz => m2 z (h.mem_iff.mp hz)
  · exact sum_perm h
theorem joinP_0 {k : Str} {ps : List Int} (h : NN ps) : joinP k ps = 0 ↔ ∀ p ∈ ps, p = 0 := by
  unfold joinP
  split
  · constructor
    · intro e p hp
      have := (maxL_spec (List.ne_nil_of_mem hp)).2 p hp
      have := h p hp
      omega
    · intro e
      cases ps with
      | nil => rfl
      | cons p r => exact e _ (maxL_spec (by simp)).1
  · induction ps with
    | nil => simp
    | cons p r ih =>
      have h1 := h p (by simp)
      have h2 : NN r := fun q hq => h q (by simp [hq])
      have := sum_nn h2
      have ih := ih h2
      simp only [List.sum_cons, List.mem_cons, forall_eq_or_imp]
      rw [← ih]
      omega
/-- joined over lots -/
theorem joinP_lots {k : Str} {L : List (List Int)} (h : ∀ l ∈ L, NN l) : joinP k (L.map (joinP k)) = joinP k L.flatten := by
  unfold joinP
  split
  · by_cases e : L.flatten = []
    · rw [e]
      have : ∀ l ∈ L, l = [] := fun l hl => by
        rw [List.flatten_eq_nil_iff] at e
        exact e l hl
      cases L with
      | nil => rfl
      | cons a r =>
        refine maxL_is ?_ fun z hz => ?_
        · rw [List.map_cons, this a (by simp)]; simp [maxL]
        · obtain ⟨l, hl, rfl⟩ := List.mem_map.mp hz
          rw [this l hl]; simp [maxL]
    · obtain ⟨m1, m2⟩ := maxL_spec e
      obtain ⟨l, hl, hm⟩ := List.mem_flatten.mp m1
      refine maxL_is (List.mem_map.mpr ⟨l, hl, maxL_is hm fun z hz => m2 z (List.mem_flatten.mpr ⟨l, hl, hz⟩)⟩) fun z hz => ?_
      obtain ⟨l2, hl2, rfl⟩ := List.mem_map.mp hz
      by_cases e2 : l2 = []
      · subst e2
        have := h l hl _ hm
        simpa [maxL] using this
      · exact m2 _ (List.mem_flatten.mpr ⟨l2, hl2, (maxL_spec e2).1⟩)
  · rename_i hk
    show (L.map List.sum).sum = L.flatten.sum
    clear h
    induction L with
    | nil => rfl
    | cons a r ih => simp only [List.map_cons, List.sum_cons, List.flatten_cons, List.sum_append, ih]
theorem joinP_lot_le {k : Str} {L : List (List Int)} (h : ∀ l ∈ L, NN l) {l : List Int} (hl : l ∈ L) : joinP k l ≤ joinP k L.flatten := by
  obtain ⟨a, b, rfl⟩ := List.append_of_mem hl
  have e : joinP k (a ++ l :: b).flatten = joinP k (l ++ (a.flatten ++ b.flatten)) := by
    apply joinP_perm
    simp only [List.flatten_append, List.flatten_cons]
    rw [← List.append_assoc, ← List.append_assoc]
    exact List.Perm.append_right _ List.perm_append_comm
  rw [e]
  refine joinP_mono_app (h l hl) fun p hp => ?_
  rcases List.mem_append.mp hp with q | q
  · obtain ⟨l2, h2, h3⟩ := List.mem_flatten.mp q
    exact h l2 (by simp [h2]) p h3
  · obtain ⟨l2, h2, h3⟩ := List.mem_flatten.mp q
    exact h l2 (by simp [h2]) p h3
theorem diffs_comm {v w : List Int} : diffs w v = (diffs v w).map (- ·) := by
  unfold diffs
  rw [List.map_map]
  induction v generalizing w with
  | nil => simp
  | cons a v ih =>
    cases w with
    | nil => simp
    | cons b w => simp only [List.zip_cons_cons, List.map_cons, ih (w := w), Function.comp]; congr 1; omega
theorem dist_comm {k : Str} {v w : List Int} : dist k w v = dist k v w := by
  unfold dist
  rw [diffs_comm, List.map_map]
  congr 1
  apply List.map_congr_left
  intro d _
  exact partOf_neg
theorem dist_self {k : Str} {v : List Int} : dist k v v = 0 := by
  refine (joinP_0 NN.parts).mpr fun p hp => ?_
  obtain ⟨d, hd, rfl⟩ := List.mem_map.mp hp
  obtain ⟨⟨x, y⟩, hz, rfl⟩ := List.mem_map.mp hd
  have : x = y := by
    clear hd hp
    induction v with
    | nil => simp at hz
    | cons a v ih =>
      simp only [List.zip_cons_cons, List.mem_cons] at hz
      rcases hz with q | q
      · cases q; rfl
      · exact ih q
  subst this
  exact partOf_0.mpr (by omega)
theorem diffs_0 : ∀ {v w : List Int}, v.length = w.length → (∀ d ∈ diffs v w, d = 0) → v = w
  | [], [], _, _ => rfl
  | [], _ :: _, h, _ => by simp at h
  | _ :: _, [], h, _ => by simp at h
  | a :: v, b :: w, h, hd => by
    have h1 := hd (a - b) (by simp [diffs])
    have h2 := diffs_0 (v := v) (w := w) (by simpa using h) fun d q => hd d (by
      unfold diffs at q ⊢
      simp only [List.zip_cons_cons, List.map_cons, List.mem_cons]
      exact .inr q)
    rw [h2, show a = b by omega]
theorem dist_0 {k : Str} {v w : List Int} (hl : v.length = w.length) : dist k v w = 0 ↔ v = w := by
  constructor
  · intro h
    have := (joinP_0 NN.parts).mp h
    exact diffs_0 hl fun d hd => partOf_0.mp (this _ (List.mem_map.mpr ⟨d, hd, rfl⟩))
  · intro h; subst h; exact dist_self
/-- place by place -/
theorem getD_map_range (v : List Int) : (List.range v.length).map (fun i => v.getD i 0) = v := by
  apply List.ext_getElem?
  intro i
  rw [List.getElem?_map]
  by_cases h : i < v.length
  · rw [List.getElem?_range h, List.getElem?_eq_getElem h]
    simp [List.getD_eq_getElem?_getD, List.getElem?_eq_getElem h]
  · rw [List.getElem?_eq_none (by simpa using h), List.getElem?_eq_none (by simpa using h)]; rfl
theorem diffs_range {v w : List Int} (hl : v.length = w.length) : diffs v w = (List.range v.length).map fun i => v.getD i 0 - w.getD i 0 := by
  apply List.ext_getElem?
  intro i
  unfold diffs
  rw [List.getElem?_map, List.getElem?_map]
  by_cases h : i < v.length
  · have h2 : i < w.length := by omega
    have e : (v.zip w)[i]? = some (v[i], w[i]) := List.getElem?_zip_eq_some.mpr ⟨List.getElem?_eq_getElem h, List.getElem?_eq_getElem h2⟩
    rw [e, List.getElem?_range h]
    simp [List.getD_eq_getElem?_getD, List.getElem?_eq_getElem h, List.getElem?_eq_getElem h2]
  · rw [List.getElem?_eq_none (by simp; omega), List.getElem?_eq_none (by simpa using h)]; rfl
/-- the parts at places -/
theorem diffs_at {v w ps : List Int} : diffs (atP v ps) (atP w ps) = ps.map fun p => v.getD p.toNat 0 - w.getD p.toNat 0 := by
  unfold diffs atP
  induction ps with
  | nil => rfl
  | cons p r ih => simp only [List.map_cons, List.zip_cons_cons, ih]
theorem within_step {k : Str} {ds : List Int} {i : Nat} {d : Int} (h : ds[i]? = some d) : joinP k ((ds.take (i + 1)).map (partOf k)) = joinP k [joinP k ((ds.take i).map (partOf k)), partOf k d] := by
  rw [List.take_add_one, h, List.map_append]
  exact joinP_app NN.parts partOf_nn
theorem within_le {k : Str} {ds : List Int} {i : Nat} : joinP k ((ds.take i).map (partOf k)) ≤ joinP k (ds.map (partOf k)) := by
  have e : ds.map (partOf k) = (ds.take i).map (partOf k) ++ (ds.drop i).map (partOf k) := by rw [← List.map_append, List.take_append_drop]
  rw [e]
  exact joinP_mono_app NN.parts NN.parts
def m_differences : MSp := fun ds S F _ => ∃ v w, ds = [vec v, vec w] ∧ v.length ≤ 1000 ∧ F (vec (diffs v w)) S
theorem u_differences {v w : List Int} {S : Store} {F Y : Post} (h : v.length ≤ 1000) (hF : F (vec (diffs v w)) S) : m_differences [vec v, vec w] S F Y := ⟨v, w, rfl, h, hF⟩
theorem lowD_vec {k : Nat} {v : List Int} : lowD k (vec v) := lowDs_ints v
theorem Fin.vec {S : Store} {F : Post} {v : List Int} (h : F (M.vec v) S) : Fin S F (M.vec v) S := Fin.same lowD_vec h
theorem h_differences {fs : List MSp}  : Kp fs glD i_differences n_differences.length p_differences.length m_differences := by
  intro ds S0 F Y h _ _
  obtain ⟨v, w, rfl, hl, hF⟩ := h
  simp only [startD, List.map_cons, List.map_nil, List.length_cons, List.length_nil, List.cons_append, List.nil_append, Nat.reduceAdd, Nat.reduceSub, List.replicate]
  walk_at "M.w"
  rw [zip2_map]
  refine Lc_map (as := v.zip w) (inj := fun p => .tup [.int p.1, .int p.2]) (fun p => .int (p.1 - p.2)) (by rw [List.length_zip]; omega) trivial (fun p _ P hP => ?_) ?_
  · walk_at "M.w"
    exact hP
  walk_at "M.w"
  have e : ((v.zip w).map fun p => D.int (p.1 - p.2)) = (diffs v w).map D.int := by unfold diffs; rw [List.map_map]; rfl
  rw [e]
  exact Fin.vec hF
local macro_rules | `(tactic| walk_at "M.x") => `(tactic| ((with_reducible refine' u_differences ?h0 ?k); (case' h0 => try first | with_reducible assumption | omega | (exact ⟨by omega, by omega⟩))))

def m_part_of : MSp := fun ds S F _ => ∃ k d, ds = [.str k, .int d] ∧ d.natAbs < 2 ^ 60 ∧ F (.int (partOf k d)) S
theorem u_part_of {k : Str} {d : Int} {S : Store} {F Y : Post} (h : d.natAbs < 2 ^ 60) (hF : F (.int (partOf k d)) S) : m_part_of [.str k, .int d] S F Y := ⟨k, d, rfl, h, hF⟩
theorem h_part_of {fs : List MSp}  : Kp fs glD i_part_of n_part_of.length p_part_of.length m_part_of := by
  intro ds S0 F Y h _ _
  obtain ⟨k, d, rfl, hd, hF⟩ := h
  unfold partOf at hF
  simp only [startD, List.map_cons, List.map_nil, List.length_cons, List.length_nil, List.cons_append, List.nil_append, Nat.reduceAdd, Nat.reduceSub, List.replicate]
  walk_at "M.w"
  refine if_C (fun c => ?_) fun c => ?_
  · rw [if_pos (of_decide_eq_true c)] at hF
    walk_at "M.w"
    exact Fin.int hF
  rw [if_neg (of_decide_eq_false c)] at hF
  walk_at "M.w"
  refine if_C (fun c => ?_) fun c => ?_
  · rw [if_pos (of_decide_eq_true c)] at hF
    walk_at "M.w"
    refine if_C (fun c => ?_) fun c => ?_
    · rw [if_neg (by simpa using c)] at hF
      walk_at "M.w"
      exact Fin.int hF
    · rw [if_pos (by simpa using c)] at hF
      walk_at "M.w"
      exact Fin.int hF
  rw [if_neg (of_decide_eq_false c)] at hF
  walk_at "M.w"
  exact Fin.int hF
local macro_rules | `(tactic| walk_at "M.x") => `(tactic| ((with_reducible refine' u_part_of ?h0 ?k); (case' h0 => try first | with_reducible assumption | omega | (exact ⟨by omega, by omega⟩))))
def m_joined_parts : MSp := fun ds S F _ => ∃ k x ps, ds = [.str k, x] ∧ sqOf S x = some (ps.map .int) ∧ F (.int (joinP k ps)) S
theorem u_joined_parts {k : Str} {x : D} {ps : List Int} {S : Store} {F Y : Post} (h : sqOf S x = some (ps.map .int)) (hF : F (.int (joinP k ps)) S) : m_joined_parts [.str k, x] S F Y := ⟨k, x, ps, rfl, h, hF⟩
theorem h_joined_parts {fs : List MSp}  : Kp fs glD i_joined_parts n_joined_parts.length p_joined_parts.length m_joined_parts := by
  intro ds S0 F Y h _ _
  obtain ⟨k, x, ps, rfl, hx, hF⟩ := h
  unfold joinP at hF
  simp only [startD, List.map_cons, List.map_nil, List.length_cons, List.length_nil, List.cons_append, List.nil_append, Nat.reduceAdd, Nat.reduceSub, List.replicate]
  walk_at "M.w"
  refine if_C (fun c => ?_) fun c => ?_
  · rw [if_pos (of_decide_eq_true c)] at hF
    walk_at "M.w"
    exact V_mxd0 hx (Fin.int hF)
  · rw [if_neg (of_decide_eq_false c)] at hF
    walk_at "M.w"
    exact V_sum hx (Fin.int hF)
def m_distance : MSp := fun ds S F _ => ∃ k v w, ds = [.str k, vec v, vec w] ∧ VB v ∧ VB w ∧ F (.int (dist k v w)) S
theorem u_distance {k : Str} {v w : List Int} {S : Store} {F Y : Post} (h : VB v) (h2 : VB w) (hF : F (.int (dist k v w)) S) : m_distance [.str k, vec v, vec w] S F Y := ⟨k, v, w, rfl, h, h2, hF⟩
theorem h_distance {fs : List MSp} (q_joined_parts : fs[K_joined_parts]? = some m_joined_parts) (q_differences : fs[K_differences]? = some m_differences) (q_part_of : fs[K_part_of]? = some m_part_of) : Kp fs glD i_distance n_distance.length p_distance.length m_distance := by
  intro ds S0 F Y h _ _
  obtain ⟨k, v, w, rfl, hv, hw, hF⟩ := h
  obtain ⟨d1, d2⟩ := hv.diffs hw
  have hv1 := hv.1
  simp only [startD, List.map_cons, List.map_nil, List.length_cons, List.length_nil, List.cons_append, List.nil_append, Nat.reduceAdd, Nat.reduceSub, List.replicate]
  walk_at "M.w"
  refine Lc_map (as := diffs v w) (inj := .int) (fun d => .int (partOf k d)) (by omega) trivial (fun d hm P hP => ?_) ?_
  · have := d2 d hm
    walk_at "M.w"
    exact hP
  walk_at "M.w"
  have e : ((diffs v w).map fun d => D.int (partOf k d)) = ((diffs v w).map (partOf k)).map D.int := by rw [List.map_map]; rfl
  rw [e]
  exact u_joined_parts rfl (Fin.int hF)
local macro_rules | `(tactic| walk_at "M.x") => `(tactic| ((with_reducible refine' u_distance ?h0 ?h1 ?k); (case' h0 => try first | with_reducible assumption | omega | (exact ⟨by omega, by omega⟩)); (case' h1 => try first | with_reducible assumption | omega | (exact ⟨by omega, by omega⟩))))

def m_is_within : MSp := fun ds S F _ => ∃ k v w q, ds = [.str k, vec v, vec w, .int q] ∧ VB v ∧ VB w ∧ F (.bl (decide (dist k v w ≤ q))) S
theorem u_is_within {k : Str} {v w : List Int} {q : Int} {S : Store} {F Y : Post} (h : VB v) (h2 : VB w) (hF : F (.bl (decide (dist k v w ≤ q))) S) : m_is_within [.str k, vec v, vec w, .int q] S F Y := ⟨k, v, w, q, rfl, h, h2, hF⟩
theorem h_is_within {fs : List MSp} (q_differences : fs[K_differences]? = some m_differences) (q_joined_parts : fs[K_joined_parts]? = some m_joined_parts) (q_part_of : fs[K_part_of]? = some m_part_of) : Kp fs glD i_is_within n_is_within.length p_is_within.length m_is_within := by
  intro ds S0 F Y h _ _
  obtain ⟨k, v, w, q, rfl, hv, hw, hF⟩ := h
  obtain ⟨d1, d2⟩ := hv.diffs hw
  have hv1 := hv.1
  unfold dist at hF
  generalize hds : diffs v w = ds at *
  simp only [startD, List.map_cons, List.map_nil, List.length_cons, List.length_nil, List.cons_append, List.nil_append, Nat.reduceAdd, Nat.reduceSub, List.replicate]
  walk_at "M.w"
  rw [hds]
  refine For_list (as := ds) (inj := .int) (fun i e S => S = S0 ∧ ∃ y, e = [some (.str k), some (vec v), some (vec w), some (.int q), some (.int (joinP k ((ds.take i).map (partOf k)))), y]) ⟨rfl, none, by simp [joinP, maxL]⟩ (fun _ _ _ _ => trivial) ?_ ?_
  · rintro e S ⟨rfl, y, rfl⟩
    walk_at "M.w"
    rw [List.take_length]
    exact Fin.bl hF
  · rintro i d e S hd ⟨rfl, y, rfl⟩
    have := d2 d (List.mem_of_getElem? hd)
    walk_at "M.w"
    refine u_joined_parts (ps := [joinP k ((ds.take i).map (partOf k)), partOf k d]) rfl ?_
    rw [← within_step hd]
    walk_at "M.w"
    refine if_C (fun c => ?_) fun c => ?_
    · walk_at "M.w"
      have c := of_decide_eq_true c
      have := within_le (k := k) (ds := ds) (i := i + 1)
      rw [decide_eq_false (by omega)] at hF
      exact Fin.bl hF
    · walk_at "M.w"
      exact ⟨rfl, _, rfl⟩
local macro_rules | `(tactic| walk_at "M.x") => `(tactic| ((with_reducible refine' u_is_within ?h0 ?h1 ?k); (case' h0 => try first | with_reducible assumption | omega | (exact ⟨by omega, by omega⟩)); (case' h1 => try first | with_reducible assumption | omega | (exact ⟨by omega, by omega⟩))))

/-- labels: names with integers -/
abbrev Lab := List (Str × Int)
abbrev lbD (p : Str × Int) : D := .tup [.str p.1, .int p.2]
abbrev labD (ls : Lab) : D := .tup (ls.map lbD)
def labIn (ls : Lab) (s : Str) : Option Int := (ls.find? fun p => decide (p.1 = s)).map (·.2)
def oiD : Option Int → D
  | none => .non
  | some v => .int v
def m_label_in : MSp := fun ds S F _ => ∃ ls s, ds = [labD ls, .str s] ∧ F (oiD (labIn ls s)) S
theorem u_label_in {ls : Lab} {s : Str} {S : Store} {F Y : Post} (hF : F (oiD (labIn ls s)) S) : m_label_in [labD ls, .str s] S F Y := ⟨ls, s, rfl, hF⟩
theorem h_label_in {fs : List MSp}  : Kp fs glD i_label_in n_label_in.length p_label_in.length m_label_in := by
  intro ds S0 F Y h _ _
  obtain ⟨ls, s, rfl, hF⟩ := h
  simp only [startD, List.map_cons, List.map_nil, List.length_cons, List.length_nil, List.cons_append, List.nil_append, Nat.reduceAdd, Nat.reduceSub, List.replicate]
  walk_at "M.w"
  refine For_list (as := ls) (inj := lbD) (fun i e S => S = S0 ∧ (∀ p ∈ ls.take i, p.1 ≠ s) ∧ ∃ w2 w3, e = [some (labD ls), some (.str s), w2, w3]) ⟨rfl, by simp, _, _, rfl⟩ (fun _ _ _ _ => trivial) ?_ ?_
  · rintro e S ⟨rfl, hn, w2, w3, rfl⟩
    walk_at "M.w"
    rw [List.take_length] at hn
    have e : labIn ls s = none := by
      unfold labIn
      rw [List.find?_eq_none.mpr fun p hp => by simpa using hn p hp]; rfl
    rw [e] at hF
    exact Fin.same trivial hF
  · rintro i p e S hp ⟨rfl, hn, w2, w3, rfl⟩
    walk_at "M.w"
    refine if_C (fun c => ?_) fun c => ?_
    · walk_at "M.w"
      have c := of_decide_eq_true c
      have hi := (List.getElem?_eq_some_iff.mp hp).1
      have hpe := (List.getElem?_eq_some_iff.mp hp).2
      have e : labIn ls s = some p.2 := by
        unfold labIn
        have : ls.find? (fun p => decide (p.1 = s)) = some p := by
          rw [List.find?_eq_some_iff_append]
          refine ⟨by simpa using c, ls.take i, ls.drop (i + 1), ?_, fun a ha => by simpa using hn a ha⟩
          have := List.take_append_drop i ls
          rw [List.drop_eq_getElem_cons hi, hpe] at this
          exact this.symm
        rw [this]; rfl
      rw [e] at hF
      exact Fin.same trivial hF
    · walk_at "M.w"
      have c := of_decide_eq_false c
      refine ⟨rfl, fun q hq => ?_, _, _, rfl⟩
      rw [List.take_succ, hp] at hq
      rcases List.mem_append.mp hq with q1 | q1
      · exact hn q q1
      · simp at q1; subst q1; exact c
local macro_rules | `(tactic| walk_at "M.x") => `(tactic| ((with_reducible refine' u_label_in  ?k)))
inductive Fl
  | all
  | has (s : Str)
  | inn (s : Str) (lo hi : Int)
  | not (f : Fl)
  | and (f g : Fl)
  | or (f g : Fl)
def flD : Fl → D
  | .all => .tup [.str "all"]
  | .has s => .tup [.str "has", .str s]
  | .inn s lo hi => .tup [.str "in", .str s, .int lo, .int hi]
  | .not f => .tup [.str "not", flD f]
  | .and f g => .tup [.str "and", flD f, flD g]
  | .or f g => .tup [.str "or", flD f, flD g]
def Fl.dep : Fl → Nat
  | .not f => f.dep + 1
  | .and f g => max f.dep g.dep + 1
  | .or f g => max f.dep g.dep + 1
  | _ => 0
def lets : Fl → Lab → Bool
  | .all, _ => true
  | .has s, ls => (labIn ls s).isSome
  | .inn s lo hi, ls => match labIn ls s with
    | some v => decide (lo ≤ v) && decide (v ≤ hi)
    | none => false
  | .not f, ls => !lets f ls
  | .and f g, ls => lets f ls && lets g ls
  | .or f g, ls => lets f ls || lets g ls
def m_lets_by : Nat → MSp
  | 0 => fun _ _ _ _ => False
  | d + 1 => fun ds S F _ => ∃ f ls, ds = [flD f, labD ls] ∧ f.dep ≤ d ∧ F (.bl (lets f ls)) S
theorem no_lets_by : ∀ ds S F Y, ¬ m_lets_by 0 ds S F Y := fun _ _ _ _ h => h
theorem u_lets_by {f : Fl} {ls : Lab} {S : Store} {F Y : Post} (h : f.dep ≤ 3) (hF : F (.bl (lets f ls)) S) : m_lets_by 4 [flD f, labD ls] S F Y := ⟨f, ls, rfl, h, hF⟩
theorem cut1 {x a b : D} : cutD [x, a, b] (some 1) none = [a, b] := rfl
theorem h_lets_by {fs : List MSp} {d : Nat} (q_label_in : fs[K_label_in]? = some m_label_in) (q_lets_by : fs[K_lets_by]? = some (m_lets_by d)) : Kp fs glD i_lets_by n_lets_by.length p_lets_by.length (m_lets_by (d + 1)) := by
  intro ds S0 F Y h _ _
  obtain ⟨f, ls, rfl, hd, hF⟩ := h
  cases f with
  | all =>
    simp only [flD, lets] at *
    simp only [startD, List.map_cons, List.map_nil, List.length_cons, List.length_nil, List.cons_append, List.nil_append, Nat.reduceAdd, Nat.reduceSub, List.replicate]
    walk_at "M.w"
    refine if_T (by decide) ?_
    walk_at "M.w"
    exact Fin.same trivial hF
  | has s =>
    simp only [flD, lets] at *
    simp only [startD, List.map_cons, List.map_nil, List.length_cons, List.length_nil, List.cons_append, List.nil_append, Nat.reduceAdd, Nat.reduceSub, List.replicate]
    walk_at "M.w"
    refine if_F (by decide) ?_
    walk_at "M.w"
    refine if_F (by decide) ?_
    walk_at "M.w"
    refine if_F (by decide) ?_
    walk_at "M.w"
    refine if_F (by decide) ?_
    walk_at "M.w"
    cases hl : labIn ls s with
    | none =>
      rw [hl] at hF
      simp only [oiD]
      walk_at "M.w"
      refine if_F rfl ?_
      exact Fin.same trivial hF
    | some v =>
      rw [hl] at hF
      simp only [oiD]
      walk_at "M.w"
      refine if_T rfl ?_
      walk_at "M.w"
      refine if_T (by decide) ?_
      exact Fin.same trivial hF
  | inn s lo hi =>
    simp only [flD, lets] at *
    simp only [startD, List.map_cons, List.map_nil, List.length_cons, List.length_nil, List.cons_append, List.nil_append, Nat.reduceAdd, Nat.reduceSub, List.replicate]
    walk_at "M.w"
    refine if_F (by decide) ?_
    walk_at "M.w"
    refine if_F (by decide) ?_
    walk_at "M.w"
    refine if_F (by decide) ?_
    walk_at "M.w"
    refine if_F (by decide) ?_
    walk_at "M.w"
    cases hl : labIn ls s with
    | none =>
      rw [hl] at hF
      simp only [oiD]
      walk_at "M.w"
      refine if_F rfl ?_
      exact Fin.same trivial hF
    | some v =>
      rw [hl] at hF
      simp only [oiD]
      walk_at "M.w"
      refine if_T rfl ?_
      walk_at "M.w"
      refine if_F (by decide) ?_
      walk_at "M.w"
      simp only [] at hF
      refine if_C (fun c => ?_) fun c => ?_
      · rw [c, Bool.true_and] at hF
        walk_at "M.w"
        exact Fin.same trivial hF
      · rw [c, Bool.false_and] at hF
        exact Fin.same trivial hF
  | not f =>
    simp only [flD, lets] at *
    simp only [startD, List.map_cons, List.map_nil, List.length_cons, List.length_nil, List.cons_append, List.nil_append, Nat.reduceAdd, Nat.reduceSub, List.replicate]
    walk_at "M.w"
    refine if_F (by decide) ?_
    walk_at "M.w"
    refine if_T (by decide) ?_
    walk_at "M.w"
    cases d with
    | zero => simp [Fl.dep] at hd
    | succ d =>
      refine ⟨f, ls, rfl, by simp only [Fl.dep] at hd; omega, ?_⟩
      walk_at "M.w"
      exact Fin.same trivial hF
  | and f g =>
    cases d with
    | zero => simp [Fl.dep] at hd
    | succ d =>
    simp only [flD, lets, Fl.dep] at *
    simp only [startD, List.map_cons, List.map_nil, List.length_cons, List.length_nil, List.cons_append, List.nil_append, Nat.reduceAdd, Nat.reduceSub, List.replicate]
    walk_at "M.w"
    refine if_F (by decide) ?_
    walk_at "M.w"
    refine if_F (by decide) ?_
    walk_at "M.w"
    refine if_T (by decide) ?_
    walk_at "M.w"
    rw [cut1]
    refine Lc_map (as := [f, g]) (inj := flD) (fun x => .bl (lets x ls)) (by simp) trivial (fun x hx P hP => ?_) ?_
    · have : x.dep ≤ d := by
        simp only [List.mem_cons, List.not_mem_nil, or_false] at hx
        rcases hx with rfl | rfl <;> omega
      walk_at "M.w"
      exact ⟨x, ls, rfl, this, hP⟩
    walk_at "M.w"
    refine V_all (ns := [lets f ls, lets g ls]) rfl ?_
    exact Fin.same trivial (by simpa using hF)
  | or f g =>
    cases d with
    | zero => simp [Fl.dep] at hd
    | succ d =>
    simp only [flD, lets, Fl.dep] at *
    simp only [startD, List.map_cons, List.map_nil, List.length_cons, List.length_nil, List.cons_append, List.nil_append, Nat.reduceAdd, Nat.reduceSub, List.replicate]
    walk_at "M.w"
    refine if_F (by decide) ?_
    walk_at "M.w"
    refine if_F (by decide) ?_
    walk_at "M.w"
    refine if_F (by decide) ?_
    walk_at "M.w"
    refine if_T (by decide) ?_
    walk_at "M.w"
    rw [cut1]
    refine Lc_map (as := [f, g]) (inj := flD) (fun x => .bl (lets x ls)) (by simp) trivial (fun x hx P hP => ?_) ?_
    · have : x.dep ≤ d := by
        simp only [List.mem_cons, List.not_mem_nil, or_false] at hx
        rcases hx with rfl | rfl <;> omega
      walk_at "M.w"
      exact ⟨x, ls, rfl, this, hP⟩
    walk_at "M.w"
    refine V_any (ns := [lets f ls, lets g ls]) rfl ?_
    exact Fin.same trivial (by simpa using hF)
local macro_rules | `(tactic| walk_at "M.x") => `(tactic| ((with_reducible refine' u_lets_by ?h0 ?k); (case' h0 => try first | with_reducible assumption | omega | (exact ⟨by omega, by omega⟩))))
structure Itm where
  key : Int
  v : List Int
  ls : Lab
abbrev itD (i : Itm) : D := .tup [.int i.key, vec i.v, labD i.ls]
abbrev stK (st : List Itm) : List Key := st.map fun i => .inl i.key
abbrev stV (st : List Itm) : List D := st.map itD
abbrev stD (st : List Itm) : D := .dct (stK st) (stV st)
def keysOK (st : List Itm) : Prop := (st.map Itm.key).Nodup
def atS (st : List Itm) (c : Int) : Option Itm := st.find? fun i => decide (i.key = c)
theorem atS_mem : ∀ {st : List Itm} {i : Itm}, keysOK st → i ∈ st → atS st i.key = some i
  | a :: st, i, h, hi => by
    unfold keysOK at h
    rw [List.map_cons, List.nodup_cons] at h
    unfold atS
    rw [List.find?_cons]
    rcases List.mem_cons.mp hi with e | e
    · subst e; simp
    · have : ¬ a.key = i.key := fun q => h.1 (by rw [q]; exact List.mem_map_of_mem e)
      rw [decide_eq_false this]
      exact atS_mem h.2 e
theorem atS_some {st : List Itm} {c : Int} {i : Itm} (h : atS st c = some i) : i ∈ st ∧ i.key = c := ⟨List.mem_of_find?_eq_some h, by have := List.find?_some h; simpa using this⟩
theorem atK_st {c : Int} : ∀ st : List Itm, atK (stK st) (stV st) (.inl c) = (atS st c).map itD
  | [] => rfl
  | a :: st => by
    simp only [stK, stV, List.map_cons, atK, atS, List.find?_cons]
    by_cases e : a.key = c
    · rw [if_pos (by rw [e]), decide_eq_true e]; rfl
    · rw [if_neg (by intro q; cases q; exact e rfl), decide_eq_false e]
      exact atK_st st
theorem hasK_st {c : Int} : ∀ st : List Itm, hasK (stK st) (.inl c) = (atS st c).isSome
  | [] => rfl
  | a :: st => by
    have ih := hasK_st (c := c) st
    simp only [hasK, stK, List.map_cons, List.any_cons, atS, List.find?_cons] at ih ⊢
    by_cases e : a.key = c
    · rw [decide_eq_true e, decide_eq_true (by rw [e])]; rfl
    · rw [decide_eq_false e, decide_eq_false (by intro q; cases q; exact e rfl), Bool.false_or]
      exact ih
def pass (f : Fl) (st : List Itm) : List Itm := st.filter fun i => lets f i.ls
def prI (k : Str) (v : List Int) (i : Itm) : Int × Int := (dist k v i.v, i.key)
def pairsOf (k : Str) (v : List Int) (f : Fl) (st : List Itm) : List (Int × Int) := srtP ((pass f st).map (prI k v))
def near (k : Str) (v : List Int) (q : Int) (f : Fl) (st : List Itm) : List (Int × Int) := (pairsOf k v f st).filter fun p => decide (p.1 ≤ q)
inductive Deed
  | take (c : Int)
  | put (i : Itm)
def Deed.key : Deed → Int
  | .take c => c
  | .put i => i.key
def deD : Deed → D
  | .take c => .tup [.str "take", .int c]
  | .put i => .tup [.str "put", itD i]
def putsOf : Deed → List Itm
  | .take _ => []
  | .put i => [i]
def doneS (st : List Itm) (d : Deed) : List Itm := (st.filter fun i => decide (i.key ≠ d.key)) ++ putsOf d
theorem srtP_of_perm {as bs : List (Int × Int)} (h : as.Perm bs) : srtP as = srtP bs := srtP_is (srtP_perm.trans h.symm) srtP_sorted
theorem near_eq {k : Str} {v : List Int} {q : Int} {f : Fl} {st : List Itm} : near k v q f st = srtP (((pass f st).map (prI k v)).filter fun p => decide (p.1 ≤ q)) :=
  (srtP_is (srtP_perm.filter _) (srtP_sorted.filter _)).symm
/-- what a put brings in -/
def extra (k : Str) (v : List Int) (q : Int) (f : Fl) : Deed → List (Int × Int)
  | .take _ => []
  | .put i => if (decide (dist k v i.v ≤ q) && lets f i.ls) = true then [prI k v i] else []
theorem told_math {k : Str} {v : List Int} {q : Int} {f : Fl} {st : List Itm} {d : Deed} : srtP (((near k v q f st).filter fun p => !decide (p.2 = d.key)) ++ extra k v q f d) = near k v q f (doneS st d) := by
  rw [near_eq, near_eq]
  refine srtP_of_perm ?_
  have e1 : ((pass f (doneS st d)).map (prI k v)).filter (fun p => decide (p.1 ≤ q)) = ((((pass f st).map (prI k v)).filter fun p => decide (p.1 ≤ q)).filter fun p => !decide (p.2 = d.key)) ++ extra k v q f d := by
    unfold pass doneS
    rw [List.filter_append, List.map_append, List.filter_append]
    congr 1
    · rw [List.filter_map, List.filter_map, List.filter_map, List.filter_filter, List.filter_filter, List.filter_filter, List.filter_filter]
      congr 1
      refine List.filter_congr fun i _ => ?_
      simp only [Function.comp, prI]
      cases lets f i.ls <;> cases decide (dist k v i.v ≤ q) <;> by_cases c : i.key = d.key <;> simp [c]
    · cases d with
      | take c => rfl
      | put i =>
        simp only [putsOf, extra]
        cases h1 : lets f i.ls <;> cases h2 : decide (dist k v i.v ≤ q) <;> simp [h1, prI] <;> simpa using h2
  rw [e1]
  exact (srtP_perm.filter _).append_right _
theorem pairs_math {k : Str} {v : List Int} {f : Fl} {st : List Itm} (h : keysOK st) : srtP ((srtI ((pass f st).map Itm.key)).map fun c => (dist k v (((atS st c).map (·.v)).getD []), c)) = pairsOf k v f st := by
  unfold pairsOf
  refine srtP_of_perm ((srtI_perm.map _).trans ?_)
  rw [List.map_map]
  have : (pass f st).map ((fun c => (dist k v (((atS st c).map (·.v)).getD []), c)) ∘ Itm.key) = (pass f st).map (prI k v) := by
    refine List.map_congr_left fun i hi => ?_
    have hi : i ∈ st := (List.mem_filter.mp hi).1
    simp only [Function.comp, atS_mem h hi, prI]
    rfl
  rw [this]
theorem keys_done {st : List Itm} {d : Deed} (h : keysOK st) : keysOK (doneS st d) := by
  unfold keysOK doneS at *
  rw [List.map_append, List.nodup_append]
  refine ⟨h.sublist (List.filter_sublist.map _), by cases d <;> simp [putsOf], ?_⟩
  intro a ha b hb
  obtain ⟨i, hi, rfl⟩ := List.mem_map.mp ha
  have hi := (List.mem_filter.mp hi).2
  cases d with
  | take c => simp [putsOf] at hb
  | put j =>
    simp [putsOf] at hb
    subst hb
    exact of_decide_eq_true hi
theorem dp_pr {p : Int × Int} : dp 2 (pr p) := dp_tup fun x hx => by
  simp only [List.mem_cons, List.not_mem_nil, or_false] at hx
  rcases hx with rfl | rfl <;> exact dp_int
theorem eqd_pr {p q : Int × Int} : eqd (pr p) (pr q) = decide (p = q) := by
  show PyData.eqv (.tuple [.int p.1, .int p.2]) (.tuple [.int q.1, .int q.2]) = _
  have e1 : PyData.eqv (.int p.1) (.int q.1) = decide (p.1 = q.1) := eqd_int
  have e2 : PyData.eqv (.int p.2) (.int q.2) = decide (p.2 = q.2) := eqd_int
  simp only [PyData.eqv, PyData.eqvAll] at *
  rw [e1, e2, Bool.and_true, Bool.eq_iff_iff]
  simp [Prod.ext_iff]
theorem dp_prT {ps : List (Int × Int)} : dp 3 (.tup (ps.map pr)) := dp_tup (dp_map fun _ _ => dp_pr)
theorem any_pr {p : Int × Int} {ps : List (Int × Int)} : ((ps.map pr).any fun z => PyData.eqv (toP z) (toP (pr p))) = decide (p ∈ ps) := by
  rw [List.any_map, Bool.eq_iff_iff, List.any_eq_true, decide_eq_true_eq]
  constructor
  · rintro ⟨z, hz, e⟩
    have e : eqd (pr z) (pr p) = true := e
    rw [eqd_pr, decide_eq_true_eq] at e
    exact e ▸ hz
  · intro h
    refine ⟨p, h, ?_⟩
    show eqd (pr p) (pr p) = true
    rw [eqd_pr]; simp
theorem V_niP {p : Int × Int} {ps : List (Int × Int)} {S : Store} {k : Bool → Prop} (q : k (!decide (p ∈ ps))) : wCmp .NotIn (pr p) (.tup (ps.map pr)) S k := by
  show wIn (pr p) (.tup (ps.map pr)) S fun b => k (!b)
  exact ⟨dp_pr.ok, dp_prT.ok, by show k (!((ps.map pr).any fun z => PyData.eqv (toP z) (toP (pr p)))); rw [any_pr]; exact q⟩
theorem tree_prs {ps : List (Int × Int)} : treeD (.tup (ps.map pr)) := treeDs_all fun d hd => by
  obtain ⟨p, _, rfl⟩ := List.mem_map.mp hd
  exact ⟨trivial, trivial, trivial⟩
theorem low_prs {k : Nat} {ps : List (Int × Int)} : lowD k (.tup (ps.map pr)) := lowDs_all fun d hd => by
  obtain ⟨p, _, rfl⟩ := List.mem_map.mp hd
  exact ⟨trivial, trivial, trivial⟩
theorem low_lab {k : Nat} {ls : Lab} : lowD k (labD ls) := lowDs_all fun d hd => by
  obtain ⟨p, _, rfl⟩ := List.mem_map.mp hd
  exact ⟨trivial, trivial, trivial⟩
theorem low_it {k : Nat} {i : Itm} : lowD k (itD i) := ⟨trivial, lowD_vec, low_lab, trivial⟩
theorem low_st {k : Nat} {st : List Itm} : lowD k (stD st) := lowDs_all fun d hd => by
  obtain ⟨p, _, rfl⟩ := List.mem_map.mp hd
  exact low_it
theorem low_fl {k : Nat} : ∀ f : Fl, lowD k (flD f)
  | .all => ⟨trivial, trivial⟩
  | .has _ => ⟨trivial, trivial, trivial⟩
  | .inn _ _ _ => ⟨trivial, trivial, trivial, trivial, trivial⟩
  | .not f => ⟨trivial, low_fl f, trivial⟩
  | .and f g => ⟨trivial, low_fl f, low_fl g, trivial⟩
  | .or f g => ⟨trivial, low_fl f, low_fl g, trivial⟩
def m_passes : MSp := fun ds S F _ => ∃ f i, ds = [flD f, itD i] ∧ f.dep ≤ 3 ∧ F (.bl (lets f i.ls)) S
theorem u_passes {f : Fl} {i : Itm} {S : Store} {F Y : Post} (h : f.dep ≤ 3) (hF : F (.bl (lets f i.ls)) S) : m_passes [flD f, itD i] S F Y := ⟨f, i, rfl, h, hF⟩
theorem h_passes {fs : List MSp} (q_lets_by : fs[K_lets_by]? = some (m_lets_by 4)) : Kp fs glD i_passes n_passes.length p_passes.length m_passes := by
  intro ds S0 F Y h _ _
  obtain ⟨f, i, rfl, hd, hF⟩ := h
  simp only [startD, List.map_cons, List.map_nil, List.length_cons, List.length_nil, List.cons_append, List.nil_append, Nat.reduceAdd, Nat.reduceSub, List.replicate]
  walk_at "M.w"
  exact Fin.same trivial hF
local macro_rules | `(tactic| walk_at "M.x") => `(tactic| ((with_reducible refine' u_passes ?h0 ?k); (case' h0 => try first | with_reducible assumption | omega | (exact ⟨by omega, by omega⟩))))
theorem items_st {st : List Itm} : dItems 2 (stK st) (stV st) = st.map fun i => .tup [.int i.key, itD i] := by
  induction st with
  | nil => rfl
  | cons a st ih =>
    simp only [dItems, stK, stV, zip2D, List.map_cons, List.zip_cons_cons, keyD] at ih ⊢
    rw [ih]
def m_passing_keys : MSp := fun ds S F _ => ∃ st f, ds = [stD st, flD f] ∧ f.dep ≤ 3 ∧ st.length ≤ 1000 ∧ F (.tup ((srtI ((pass f st).map Itm.key)).map .int)) S
theorem u_passing_keys {st : List Itm} {f : Fl} {S : Store} {F Y : Post} (h : f.dep ≤ 3) (hl : st.length ≤ 1000) (hF : F (.tup ((srtI ((pass f st).map Itm.key)).map .int)) S) : m_passing_keys [stD st, flD f] S F Y := ⟨st, f, rfl, h, hl, hF⟩
theorem h_passing_keys {fs : List MSp} (q_passes : fs[K_passes]? = some m_passes) : Kp fs glD i_passing_keys n_passing_keys.length p_passing_keys.length m_passing_keys := by
  intro ds S0 F Y h _ _
  obtain ⟨st, f, rfl, hd, hl, hF⟩ := h
  simp only [startD, List.map_cons, List.map_nil, List.length_cons, List.length_nil, List.cons_append, List.nil_append, Nat.reduceAdd, Nat.reduceSub, List.replicate]
  walk_at "M.w"
  rw [items_st]
  refine Lc_filter (as := st) (inj := fun i => .tup [.int i.key, itD i]) (fun i => lets f i.ls) (fun i => .int i.key) (by omega) trivial (fun i hi P R hP hR => ?_) ?_
  · walk_at "M.w"
    exact if_C hP hR
  walk_at "M.w"
  have e : ((st.filter fun i => lets f i.ls).map fun i => D.int i.key) = ((pass f st).map Itm.key).map .int := by rw [List.map_map]; rfl
  rw [e]
  refine V_sortedI rfl ?_
  walk_at "M.w"
  exact Fin.same (lowDs_ints _) hF
local macro_rules | `(tactic| walk_at "M.x") => `(tactic| ((with_reducible refine' u_passing_keys ?h0 ?h1 ?k); (case' h0 => try first | with_reducible assumption | omega | (exact ⟨by omega, by omega⟩)); (case' h1 => try first | with_reducible assumption | omega | (exact ⟨by omega, by omega⟩))))
def vecsOK (st : List Itm) : Prop := st.length ≤ 1000 ∧ ∀ i ∈ st, VB i.v
def m_pairs_from : MSp := fun ds S F _ => ∃ st k v f, ds = [stD st, .str k, vec v, flD f] ∧ f.dep ≤ 3 ∧ keysOK st ∧ vecsOK st ∧ VB v ∧ F (.tup ((pairsOf k v f st).map pr)) S
theorem u_pairs_from {st : List Itm} {k : Str} {v : List Int} {f : Fl} {S : Store} {F Y : Post} (h : f.dep ≤ 3) (hk : keysOK st) (hv : vecsOK st) (vb : VB v) (hF : F (.tup ((pairsOf k v f st).map pr)) S) : m_pairs_from [stD st, .str k, vec v, flD f] S F Y := ⟨st, k, v, f, rfl, h, hk, hv, vb, hF⟩
theorem h_pairs_from {fs : List MSp} (q_passing_keys : fs[K_passing_keys]? = some m_passing_keys) (q_distance : fs[K_distance]? = some m_distance) : Kp fs glD i_pairs_from n_pairs_from.length p_pairs_from.length m_pairs_from := by
  intro ds S0 F Y h _ _
  obtain ⟨st, k, v, f, rfl, hd, hk, ⟨hl, hv⟩, vb, hF⟩ := h
  simp only [startD, List.map_cons, List.map_nil, List.length_cons, List.length_nil, List.cons_append, List.nil_append, Nat.reduceAdd, Nat.reduceSub, List.replicate]
  walk_at "M.w"
  have lp : (pass f st).length ≤ 1000 := Nat.le_trans (List.length_filter_le _ _) hl
  refine Lc_map (as := srtI ((pass f st).map Itm.key)) (inj := .int) (fun c => pr (dist k v (((atS st c).map (·.v)).getD []), c)) (by rw [srtI_perm.length_eq, List.length_map]; omega) trivial (fun c hc P hP => ?_) ?_
  · have hc := srtI_perm.mem_iff.mp hc
    obtain ⟨i, hi, rfl⟩ := List.mem_map.mp hc
    have hi : i ∈ st := (List.mem_filter.mp hi).1
    have ha := atS_mem hk hi
    have iv := hv i hi
    rw [ha] at hP
    walk_at "M.w"
    refine V_ixD (k := .inl i.key) (d := itD i) rfl (by rw [atK_st, ha]; rfl) ?_
    walk_at "M.w"
    exact hP
  walk_at "M.w"
  have e : ((srtI ((pass f st).map Itm.key)).map fun c => pr (dist k v (((atS st c).map (·.v)).getD []), c)) = ((srtI ((pass f st).map Itm.key)).map fun c => (dist k v (((atS st c).map (·.v)).getD []), c)).map pr := by rw [List.map_map]; rfl
  rw [e]
  refine V_sortedP rfl ?_
  rw [pairs_math hk]
  walk_at "M.w"
  exact Fin.same low_prs hF
local macro_rules | `(tactic| walk_at "M.x") => `(tactic| ((with_reducible refine' u_pairs_from ?h0 ?h1 ?h2 ?h3 ?k); (case' h0 => try first | with_reducible assumption | omega | (exact ⟨by omega, by omega⟩)); (case' h1 => try first | with_reducible assumption | omega | (exact ⟨by omega, by omega⟩)); (case' h2 => try first | with_reducible assumption | omega | (exact ⟨by omega, by omega⟩)); (case' h3 => try first | with_reducible assumption | omega | (exact ⟨by omega, by omega⟩))))
def m_within : MSp := fun ds S F _ => ∃ st k v q f, ds = [stD st, .str k, vec v, .int q, flD f] ∧ f.dep ≤ 3 ∧ keysOK st ∧ vecsOK st ∧ VB v ∧ F (.tup ((near k v q f st).map pr)) S
theorem h_within {fs : List MSp} (q_pairs_from : fs[K_pairs_from]? = some m_pairs_from) : Kp fs glD i_within n_within.length p_within.length m_within := by
  intro ds S0 F Y h _ _
  obtain ⟨st, k, v, q, f, rfl, hd, hk, hv, vb, hF⟩ := h
  have lp : (pairsOf k v f st).length ≤ 1000 := by
    unfold pairsOf
    rw [srtP_perm.length_eq, List.length_map]
    exact Nat.le_trans (List.length_filter_le _ _) hv.1
  simp only [startD, List.map_cons, List.map_nil, List.length_cons, List.length_nil, List.cons_append, List.nil_append, Nat.reduceAdd, Nat.reduceSub, List.replicate]
  walk_at "M.w"
  refine Lc_filter (as := pairsOf k v f st) (inj := pr) (fun p => decide (p.1 ≤ q)) pr (by omega) trivial (fun p _ P R hP hR => ?_) ?_
  · walk_at "M.w"
    exact if_C hP hR
  walk_at "M.w"
  exact Fin.same low_prs hF
/-- a state, as a value or as a cell -/
def isSt (S : Store) (x : D) (st : List Itm) : Prop := x = stD st ∨ ∃ n lk, x = .ref n ∧ S[n]? = some (.dct lk (stK st) (stV st))
theorem u_within {x : D} {st : List Itm} {k : Str} {v : List Int} {q : Int} {f : Fl} {S : Store} {F Y : Post} (hx : isSt S x st) (h : f.dep ≤ 3) (hk : keysOK st) (hv : vecsOK st) (vb : VB v) (hF : F (.tup ((near k v q f st).map pr)) S) : bor m_within [x, .str k, vec v, .int q, flD f] S F Y := by
  refine ⟨[stD st, .str k, vec v, .int q, flD f], .cons ?_ (.cons (.low trivial) (.cons (.low lowD_vec) (.cons (.low trivial) (.cons (.low (low_fl f)) .nil)))), st, k, v, q, f, rfl, h, hk, hv, vb, tree_prs, hF⟩
  rcases hx with rfl | ⟨n, lk, rfl, hn⟩
  · exact .low low_st
  · exact .refD (Nat.zero_le _) hn (.low (low_st (st := st)))

theorem u_deed_key0 : True := trivial
def m_deed_key : MSp := fun ds S F _ => ∃ d, ds = [deD d] ∧ F (.int d.key) S
theorem u_deed_key {d : Deed} {S : Store} {F Y : Post} (hF : F (.int d.key) S) : m_deed_key [deD d] S F Y := ⟨d, rfl, hF⟩
theorem h_deed_key {fs : List MSp}  : Kp fs glD i_deed_key n_deed_key.length p_deed_key.length m_deed_key := by
  intro ds S0 F Y h _ _
  obtain ⟨d, rfl, hF⟩ := h
  cases d with
  | take c =>
    simp only [deD, Deed.key] at *
    simp only [startD, List.map_cons, List.map_nil, List.length_cons, List.length_nil, List.cons_append, List.nil_append, Nat.reduceAdd, Nat.reduceSub, List.replicate]
    walk_at "M.w"
    refine if_F (by decide) ?_
    walk_at "M.w"
    exact Fin.same trivial hF
  | put i =>
    simp only [deD, Deed.key] at *
    simp only [startD, List.map_cons, List.map_nil, List.length_cons, List.length_nil, List.cons_append, List.nil_append, Nat.reduceAdd, Nat.reduceSub, List.replicate]
    walk_at "M.w"
    refine if_T (by decide) ?_
    walk_at "M.w"
    exact Fin.same trivial hF
local macro_rules | `(tactic| walk_at "M.x") => `(tactic| ((with_reducible refine' u_deed_key  ?k)))
def opD : Option (Int × Int) → D
  | none => .non
  | some p => pr p
def putP (k : Str) (v : List Int) (f : Fl) : Deed → Option (Int × Int)
  | .take _ => none
  | .put i => if lets f i.ls = true then some (prI k v i) else none
def deedOK (d : Deed) : Prop := ∀ i ∈ putsOf d, VB i.v
def m_put_pair : MSp := fun ds S F _ => ∃ k v f d, ds = [.str k, vec v, flD f, deD d] ∧ f.dep ≤ 3 ∧ VB v ∧ deedOK d ∧ F (opD (putP k v f d)) S
theorem u_put_pair {k : Str} {v : List Int} {f : Fl} {d : Deed} {S : Store} {F Y : Post} (h : f.dep ≤ 3) (hv : VB v) (hd : deedOK d) (hF : F (opD (putP k v f d)) S) : m_put_pair [.str k, vec v, flD f, deD d] S F Y := ⟨k, v, f, d, rfl, h, hv, hd, hF⟩
theorem h_put_pair {fs : List MSp} (q_passes : fs[K_passes]? = some m_passes) (q_distance : fs[K_distance]? = some m_distance) : Kp fs glD i_put_pair n_put_pair.length p_put_pair.length m_put_pair := by
  intro ds S0 F Y h _ _
  obtain ⟨k, v, f, d, rfl, hd, hv, hdd, hF⟩ := h
  cases d with
  | take c =>
    simp only [deD, putP, opD] at *
    simp only [startD, List.map_cons, List.map_nil, List.length_cons, List.length_nil, List.cons_append, List.nil_append, Nat.reduceAdd, Nat.reduceSub, List.replicate]
    walk_at "M.w"
    refine if_T (by decide) ?_
    walk_at "M.w"
    exact Fin.same trivial hF
  | put i =>
    have iv := hdd i (by simp [putsOf])
    simp only [deD, putP] at *
    simp only [startD, List.map_cons, List.map_nil, List.length_cons, List.length_nil, List.cons_append, List.nil_append, Nat.reduceAdd, Nat.reduceSub, List.replicate]
    walk_at "M.w"
    refine if_F (by decide) ?_
    walk_at "M.w"
    cases hl : lets f i.ls with
    | true =>
      rw [hl, if_pos rfl] at hF
      refine if_F rfl ?_
      walk_at "M.w"
      exact Fin.same ⟨trivial, trivial, trivial⟩ hF
    | false =>
      rw [hl, if_neg (by decide)] at hF
      refine if_T rfl ?_
      walk_at "M.w"
      exact Fin.same trivial hF
local macro_rules | `(tactic| walk_at "M.x") => `(tactic| ((with_reducible refine' u_put_pair ?h0 ?h1 ?h2 ?k); (case' h0 => try first | with_reducible assumption | omega | (exact ⟨by omega, by omega⟩)); (case' h1 => try first | with_reducible assumption | omega | (exact ⟨by omega, by omega⟩)); (case' h2 => try first | with_reducible assumption | omega | (exact ⟨by omega, by omega⟩))))
def news (as bs : List (Int × Int)) : D := .tup [.tup ((as.filter fun p => !decide (p ∈ bs)).map pr), .tup ((bs.filter fun p => !decide (p ∈ as)).map pr)]
theorem low_news {k : Nat} {as bs : List (Int × Int)} : lowD k (news as bs) := ⟨low_prs, low_prs, trivial⟩
def m_news_of : MSp := fun ds S F _ => ∃ as bs, ds = [.tup (as.map pr), .tup (bs.map pr)] ∧ as.length ≤ 10000 ∧ bs.length ≤ 10000 ∧ F (news as bs) S
theorem u_news_of {as bs : List (Int × Int)} {S : Store} {F Y : Post} (h : as.length ≤ 10000) (h2 : bs.length ≤ 10000) (hF : F (news as bs) S) : m_news_of [.tup (as.map pr), .tup (bs.map pr)] S F Y := ⟨as, bs, rfl, h, h2, hF⟩
theorem h_news_of {fs : List MSp}  : Kp fs glD i_news_of n_news_of.length p_news_of.length m_news_of := by
  intro ds S0 F Y h _ _
  obtain ⟨as, bs, rfl, ha, hb, hF⟩ := h
  simp only [startD, List.map_cons, List.map_nil, List.length_cons, List.length_nil, List.cons_append, List.nil_append, Nat.reduceAdd, Nat.reduceSub, List.replicate]
  walk_at "M.w"
  refine Lc_filter (as := as) (inj := pr) (fun p => !decide (p ∈ bs)) pr (by omega) trivial (fun p _ P R hP hR => ?_) ?_
  · walk_at "M.w"
    refine V_niP ?_
    walk_at "M.w"
    exact if_C hP hR
  walk_at "M.w"
  refine Lc_filter (as := bs) (inj := pr) (fun p => !decide (p ∈ as)) pr (by omega) trivial (fun p _ P R hP hR => ?_) ?_
  · walk_at "M.w"
    refine V_niP ?_
    walk_at "M.w"
    exact if_C hP hR
  walk_at "M.w"
  exact Fin.same low_news hF
local macro_rules | `(tactic| walk_at "M.x") => `(tactic| ((with_reducible refine' u_news_of ?h0 ?h1 ?k); (case' h0 => try first | with_reducible assumption | omega | (exact ⟨by omega, by omega⟩)); (case' h1 => try first | with_reducible assumption | omega | (exact ⟨by omega, by omega⟩))))
abbrev NbC (k : Str) (v : List Int) (q : Int) (f : Fl) (ps : List (Int × Int)) : Cell := .ins "Nearby" ["kind", "vector", "reach", "sieve", "all_pairs"] [.str k, vec v, .int q, flD f, .tup (ps.map pr)]
theorem setA {S : Store} {r : Nat} {c d : Cell} (h : S[r]? = some c) : (S.set r d)[r]? = some d := by
  rw [List.getElem?_set_self (List.getElem?_eq_some_iff.mp h).1]
/-- one cell is changed -/
theorem fin_cell {S : Store} {F : Post} {d : D} {r : Nat} {c : Cell} (hc : lowC S.length c) (hd : lowD S.length d) (hF : F d (S.set r c)) : Fin S F d (S.set r c) := by
  refine ⟨S.length, d, ⟨Nat.le_refl _, by rw [List.length_set]; exact Nat.le_refl _, fun n hn => ?_⟩, .low hd, by rw [List.take_of_length_le (by rw [List.length_set]; exact Nat.le_refl _)]; exact hF⟩
  by_cases e : r = n
  · subst e
    exact .inr ⟨_, List.getElem?_set_self hn, hc⟩
  · exact .inl (List.getElem?_set_ne e)
theorem low_nb {n : Nat} {k : Str} {v : List Int} {q : Int} {f : Fl} {ps : List (Int × Int)} : lowC n (NbC k v q f ps) := ⟨trivial, lowD_vec, trivial, low_fl f, low_prs, trivial⟩
def m_Nearby___init__ : MSp := fun ds S F _ => ∃ n x st k v q f, ds = [.ref n, x, .str k, vec v, .int q, flD f] ∧ S[n]? = some (.ins "Nearby" [] []) ∧ isSt S x st ∧ f.dep ≤ 3 ∧ keysOK st ∧ vecsOK st ∧ VB v ∧ F .non (S.set n (NbC k v q f (near k v q f st)))
theorem u_Nearby___init__ {n : Nat} {x : D} {st : List Itm} {k : Str} {v : List Int} {q : Int} {f : Fl} {S : Store} {F Y : Post} (hn : S[n]? = some (.ins "Nearby" [] [])) (hx : isSt S x st) (hf : f.dep ≤ 3) (hk : keysOK st) (hv : vecsOK st) (vb : VB v) (hF : F .non (S.set n (NbC k v q f (near k v q f st)))) :
  m_Nearby___init__ [.ref n, x, .str k, vec v, .int q, flD f] S F Y := ⟨n, x, st, k, v, q, f, rfl, hn, hx, hf, hk, hv, vb, hF⟩
theorem isSt.set {S : Store} {x : D} {st : List Itm} {n : Nat} {c : Str} {ns : List Str} {ds : List D} {d : Cell} (h : isSt S x st) (hn : S[n]? = some (.ins c ns ds)) : isSt (S.set n d) x st := by
  rcases h with rfl | ⟨m, lk, rfl, hm⟩
  · exact .inl rfl
  · refine .inr ⟨m, lk, rfl, ?_⟩
    rw [List.getElem?_set_ne (fun e => by subst e; rw [hn] at hm; cases hm)]
    exact hm
theorem h_Nearby___init__ {fs : List MSp} (q_within : fs[K_within]? = some (bor m_within)) : Kp fs glD i_Nearby___init__ n_Nearby___init__.length p_Nearby___init__.length m_Nearby___init__ := by
  intro ds S0 F Y h _ _
  obtain ⟨n, x, st, k, v, q, f, rfl, hn, hx, hf, hk, hv, vb, hF⟩ := h
  simp only [startD, List.map_cons, List.map_nil, List.length_cons, List.length_nil, List.cons_append, List.nil_append, Nat.reduceAdd, Nat.reduceSub, List.replicate]
  walk_at "M.w"
  refine V_setF (setA hn) (by decide +kernel) (by decide) ?_
  rw [List.set_set]
  walk_at "M.w"
  refine V_setF (setA hn) (by decide +kernel) (by decide) ?_
  rw [List.set_set]
  walk_at "M.w"
  refine V_setF (setA hn) (by decide +kernel) (by decide) ?_
  rw [List.set_set]
  walk_at "M.w"
  refine u_within (hx.set hn) hf hk hv vb ?_
  walk_at "M.w"
  refine V_setF (setA hn) (by decide +kernel) (by decide) ?_
  rw [List.set_set]
  walk_at "M.w"
  exact fin_cell low_nb trivial hF
def m_Nearby_kept : MSp := fun ds S F _ => ∃ n k v q f ps, ds = [.ref n] ∧ S[n]? = some (NbC k v q f ps) ∧ F (.tup (ps.map pr)) S
theorem u_Nearby_kept {n : Nat} {k : Str} {v : List Int} {q : Int} {f : Fl} {ps : List (Int × Int)} {S : Store} {F Y : Post} (hn : S[n]? = some (NbC k v q f ps)) (hF : F (.tup (ps.map pr)) S) : m_Nearby_kept [.ref n] S F Y := ⟨n, k, v, q, f, ps, rfl, hn, hF⟩
theorem h_Nearby_kept {fs : List MSp}  : Kp fs glD i_Nearby_kept n_Nearby_kept.length p_Nearby_kept.length m_Nearby_kept := by
  intro ds S0 F Y h _ _
  obtain ⟨n, k, v, q, f, ps, rfl, hn, hF⟩ := h
  simp only [startD, List.map_cons, List.map_nil, List.length_cons, List.length_nil, List.cons_append, List.nil_append, Nat.reduceAdd, Nat.reduceSub, List.replicate]
  walk_at "M.w"
  exact Fin.same low_prs hF
local macro_rules | `(tactic| walk_at "M.x") => `(tactic| ((with_reducible refine' u_Nearby_kept ?h0 ?k); (case' h0 => try first | with_reducible assumption | omega | (exact ⟨by omega, by omega⟩))))
/-- what it keeps behind a deed -/
def toldP (k : Str) (v : List Int) (q : Int) (f : Fl) (ps : List (Int × Int)) (d : Deed) : List (Int × Int) := srtP ((ps.filter fun p => !decide (p.2 = d.key)) ++ extra k v q f d)
theorem extra_len {k : Str} {v : List Int} {q : Int} {f : Fl} {d : Deed} : (extra k v q f d).length ≤ 1 := by
  cases d with
  | take c => simp [extra]
  | put i =>
    simp only [extra]
    split <;> simp
theorem toldP_len {k : Str} {v : List Int} {q : Int} {f : Fl} {ps : List (Int × Int)} {d : Deed} : (toldP k v q f ps d).length ≤ ps.length + 1 := by
  unfold toldP
  rw [srtP_perm.length_eq, List.length_append]
  have := extra_len (k := k) (v := v) (q := q) (f := f) (d := d)
  have := List.length_filter_le (fun p : Int × Int => !decide (p.2 = d.key)) ps
  omega
def m_Nearby_told : MSp := fun ds S F _ => ∃ n k v q f ps d, ds = [.ref n, deD d] ∧ S[n]? = some (NbC k v q f ps) ∧ f.dep ≤ 3 ∧ VB v ∧ deedOK d ∧ ps.length ≤ 5000 ∧ F (news ps (toldP k v q f ps d)) (S.set n (NbC k v q f (toldP k v q f ps d)))
theorem u_Nearby_told {n : Nat} {k : Str} {v : List Int} {q : Int} {f : Fl} {ps : List (Int × Int)} {d : Deed} {S : Store} {F Y : Post} (hn : S[n]? = some (NbC k v q f ps)) (hf : f.dep ≤ 3) (vb : VB v) (hd : deedOK d) (hl : ps.length ≤ 5000) (hF : F (news ps (toldP k v q f ps d)) (S.set n (NbC k v q f (toldP k v q f ps d)))) :
  m_Nearby_told [.ref n, deD d] S F Y := ⟨n, k, v, q, f, ps, d, rfl, hn, hf, vb, hd, hl, hF⟩
theorem h_Nearby_told {fs : List MSp} (q_deed_key : fs[K_deed_key]? = some m_deed_key) (q_is_within : fs[K_is_within]? = some m_is_within) (q_put_pair : fs[K_put_pair]? = some m_put_pair) (q_news_of : fs[K_news_of]? = some m_news_of) : Kp fs glD i_Nearby_told n_Nearby_told.length p_Nearby_told.length m_Nearby_told := by
  intro ds S0 F Y h _ _
  obtain ⟨n, k, v, q, f, ps, d, rfl, hn, hf, vb, hd, hl, hF⟩ := h
  have tl := toldP_len (k := k) (v := v) (q := q) (f := f) (ps := ps) (d := d)
  have fin : ∀ w5, wSs l_Nearby_told_6 ⟨fs, glD, FX S0 Y, none⟩ (EndK S0 F) [some (.ref n), some (deD d), some (.tup (ps.map pr)), some (.int d.key), some (.lst (((ps.filter fun p => !decide (p.2 = d.key)) ++ extra k v q f d).map pr)), w5] S0 := fun w5 => by
    walk_at "M.w"
    refine V_sortedP rfl ?_
    walk_at "M.w"
    have h2 : (S0.set n (NbC k v q f (toldP k v q f ps d)))[n]? = some (NbC k v q f (toldP k v q f ps d)) := setA hn
    show wFld _ _ _ (S0.set n (NbC k v q f (toldP k v q f ps d))) _
    refine V_fld h2 (by decide +kernel) rfl ?_
    walk_at "M.w"
    exact fin_cell low_nb low_news hF
  simp only [startD, List.map_cons, List.map_nil, List.length_cons, List.length_nil, List.cons_append, List.nil_append, Nat.reduceAdd, Nat.reduceSub, List.replicate]
  walk_at "M.w"
  refine Lc_filter (as := ps) (inj := pr) (fun p => !decide (p.2 = d.key)) pr (by omega) trivial (fun p _ P R hP hR => ?_) ?_
  · walk_at "M.w"
    exact if_C hP hR
  walk_at "M.w"
  cases d with
  | take c =>
    clear fin
    have tt : srtP (ps.filter fun p => !decide (p.2 = (Deed.take c).key)) = toldP k v q f ps (.take c) := by simp [toldP, extra]
    simp only [deD] at *
    walk_at "M.w"
    refine if_F (by decide) ?_
    walk_at "M.w"
    refine V_sortedP rfl ?_
    rw [tt]
    walk_at "M.w"
    have h2 : (S0.set n (NbC k v q f (toldP k v q f ps (.take c))))[n]? = some (NbC k v q f (toldP k v q f ps (.take c))) := setA hn
    show wFld _ _ _ (S0.set n (NbC k v q f (toldP k v q f ps (.take c)))) _
    refine V_fld h2 (by decide +kernel) rfl ?_
    walk_at "M.w"
    exact fin_cell low_nb low_news hF
  | put i =>
    have iv := hd i (by simp [putsOf])
    simp only [deD] at *
    walk_at "M.w"
    refine if_T (by decide) ?_
    walk_at "M.w"
    refine if_C (fun c => ?_) fun c => ?_
    · walk_at "M.w"
      refine u_put_pair (d := .put i) hf vb hd ?_
      cases hp : lets f i.ls with
      | true =>
        rw [show putP k v f (.put i) = some (prI k v i) by simp only [putP]; rw [if_pos hp]]
        simp only [opD]
        walk_at "M.w"
        refine if_F rfl ?_
        walk_at "M.w"
        have lf := List.length_filter_le (fun p : Int × Int => !decide (p.2 = (Deed.put i).key)) ps
        refine V_addL (sz (by rw [List.length_map]; exact Nat.le_trans (Nat.add_le_add_right lf 1) (by omega))) ?_
        have e : (ps.filter fun p => !decide (p.2 = (Deed.put i).key)).map pr ++ [pr (prI k v i)] = ((ps.filter fun p => !decide (p.2 = (Deed.put i).key)) ++ extra k v q f (.put i)).map pr := by
          simp only [extra]
          rw [c, hp]
          simp
        rw [e]
        refine L_F ?_
        refine Tg_nm ?_
        dsimp only [List.set]
        refine Ss_nil ?_
        exact fin _
      | false =>
        rw [show putP k v f (.put i) = none by simp only [putP]; rw [if_neg (by rw [hp]; decide)]]
        simp only [opD]
        walk_at "M.w"
        refine if_T rfl ?_
        walk_at "M.w"
        have e : extra k v q f (.put i) = [] := by
          simp only [extra]
          rw [hp]
          simp
        rw [e, List.append_nil] at fin
        exact fin _
    · walk_at "M.w"
      have e : extra k v q f (.put i) = [] := by
        simp only [extra]
        rw [c]
        rfl
      rw [e, List.append_nil] at fin
      exact fin _

def isK (k : Str) : Prop := k = "square" ∨ k = "sum" ∨ k = "most" ∨ k = "unlike"
def m_x_far : MSp := fun ds S F _ => ∃ k v w, ds = [.str k, vec v, vec w] ∧ isK k ∧ v.length = w.length ∧ 0 < v.length ∧ VB v ∧ VB w ∧ F (.int (dist k v w)) S
theorem u_x_far {k : Str} {v w : List Int} {S : Store} {F Y : Post} (hk : isK k) (hl : v.length = w.length) (h0 : 0 < v.length) (h : VB v) (h2 : VB w) (hF : F (.int (dist k v w)) S) : m_x_far [.str k, vec v, vec w] S F Y := ⟨k, v, w, rfl, hk, hl, h0, h, h2, hF⟩
theorem far_un (ds : List Int) : ((((ds.map fun d => (d.natAbs : Int)).filter fun p => decide (0 < p)).length : Nat) : Int) = (ds.map (partOf "unlike")).sum := by
  have pu : ∀ d, partOf "unlike" d = if d = 0 then 0 else 1 := fun d => by
    unfold partOf
    rw [if_neg (by decide), if_pos rfl]
  induction ds with
  | nil => rfl
  | cons d ds ih =>
    rw [List.map_cons, List.map_cons, List.sum_cons, ← ih, pu]
    by_cases c : d = 0
    · subst c; simp
    · have h : 0 < (d.natAbs : Int) := by omega
      rw [List.filter_cons_of_pos (by simpa using h), if_neg c, List.length_cons]
      omega
theorem h_x_far {fs : List MSp}  : Kp fs glD i_x_far n_x_far.length p_x_far.length m_x_far := by
  intro ds S0 F Y h _ _
  obtain ⟨k, v, w, rfl, hk, hl, h0, hv, hw, hF⟩ := h
  obtain ⟨d1, d2⟩ := hv.diffs hw
  have hv1 := hv.1
  have hdl : (diffs v w).length = v.length := by unfold diffs; rw [List.length_map, List.length_zip]; omega
  unfold dist at hF
  generalize hds : diffs v w = ds at *
  simp only [startD, List.map_cons, List.map_nil, List.length_cons, List.length_nil, List.cons_append, List.nil_append, Nat.reduceAdd, Nat.reduceSub, List.replicate]
  walk_at "M.w"
  rw [zip2_map]
  refine Lc_map (as := v.zip w) (inj := fun p => .tup [.int p.1, .int p.2]) (fun p => .int ((p.1 - p.2).natAbs : Int)) (by rw [List.length_zip]; omega) trivial (fun p _ P hP => ?_) ?_
  · walk_at "M.w"
    exact hP
  walk_at "M.w"
  have e : ((v.zip w).map fun p => D.int ((p.1 - p.2).natAbs : Int)) = (ds.map fun d => (d.natAbs : Int)).map D.int := by rw [← hds]; unfold diffs; rw [List.map_map, List.map_map]; rfl
  rw [e]
  have hb : ∀ p ∈ ds.map (fun d => (d.natAbs : Int)), 0 ≤ p ∧ p < 2 ^ 29 := fun p hp => by
    obtain ⟨d, hd, rfl⟩ := List.mem_map.mp hp
    have := d2 d hd
    omega
  have hl2 : (ds.map fun d => (d.natAbs : Int)).length ≤ 1000 := by rw [List.length_map]; exact d1
  rcases hk with rfl | rfl | rfl | rfl
  · refine if_T (by decide) ?_
    walk_at "M.w"
    refine Lc_map (as := ds.map fun d : Int => (d.natAbs : Int)) (inj := .int) (fun p => .int (p * p)) (by omega) trivial (fun p hp P hP => ?_) ?_
    · have := hb p hp
      walk_at "M.w"
      exact hP
    walk_at "M.w"
    have e : ((ds.map fun d => (d.natAbs : Int)).map fun p => D.int (p * p)) = (ds.map (partOf "square")).map D.int := by
      rw [List.map_map, List.map_map]
      refine List.map_congr_left fun d _ => ?_
      show D.int ((d.natAbs : Int) * (d.natAbs : Int)) = D.int (partOf "square" d)
      rw [show partOf "square" d = d * d from if_pos rfl, Int.natAbs_mul_self']
    rw [e]
    refine V_sum rfl ?_
    rw [show joinP "square" (ds.map (partOf "square")) = (ds.map (partOf "square")).sum from if_neg (by decide)] at hF
    exact Fin.int hF
  · have pp : ds.map (partOf "sum") = ds.map fun d => (d.natAbs : Int) := List.map_congr_left fun d _ => by
      unfold partOf
      rw [if_neg (by decide), if_neg (by decide)]
    rw [pp, show ∀ z, joinP "sum" z = z.sum from fun z => if_neg (by decide)] at hF
    refine if_F (by decide) ?_
    walk_at "M.w"
    refine if_F (by decide) ?_
    walk_at "M.w"
    refine if_T (by decide) ?_
    walk_at "M.w"
    refine V_sum rfl ?_
    exact Fin.int hF
  · have pp : ds.map (partOf "most") = ds.map fun d => (d.natAbs : Int) := List.map_congr_left fun d _ => by
      unfold partOf
      rw [if_neg (by decide), if_neg (by decide)]
    rw [pp, show ∀ z, joinP "most" z = maxL z from fun z => if_pos rfl] at hF
    refine if_F (by decide) ?_
    walk_at "M.w"
    refine if_F (by decide) ?_
    walk_at "M.w"
    refine if_F (by decide) ?_
    walk_at "M.w"
    refine V_max rfl (fun e => ?_) ?_
    · have : (ds.map fun d => (d.natAbs : Int)).length = 0 := by rw [e]; rfl
      rw [List.length_map] at this
      omega
    exact Fin.int hF
  · rw [show ∀ z, joinP "unlike" z = z.sum from fun z => if_neg (by decide), ← far_un] at hF
    refine if_F (by decide) ?_
    walk_at "M.w"
    refine if_T (by decide) ?_
    walk_at "M.w"
    refine Lc_filter (as := ds.map fun d : Int => (d.natAbs : Int)) (inj := .int) (fun p => decide (0 < p)) .int (by omega) trivial (fun p _ P R hP hR => ?_) ?_
    · walk_at "M.w"
      exact if_C hP hR
    walk_at "M.w"
    exact Fin.int hF
local macro_rules | `(tactic| walk_at "M.x") => `(tactic| ((with_reducible refine' u_x_far ?h0 ?h1 ?h2 ?h3 ?h4 ?k); (case' h0 => try first | with_reducible assumption | omega | (exact ⟨by omega, by omega⟩)); (case' h1 => try first | with_reducible assumption | omega | (exact ⟨by omega, by omega⟩)); (case' h2 => try first | with_reducible assumption | omega | (exact ⟨by omega, by omega⟩)); (case' h3 => try first | with_reducible assumption | omega | (exact ⟨by omega, by omega⟩)); (case' h4 => try first | with_reducible assumption | omega | (exact ⟨by omega, by omega⟩))))
def m_x_passes : Nat → MSp
  | 0 => fun _ _ _ _ => False
  | d + 1 => fun ds S F _ => ∃ f i, ds = [flD f, itD i] ∧ f.dep ≤ d ∧ (i.ls.map (·.1)).Nodup ∧ i.ls.length ≤ 1000 ∧ F (.bl (lets f i.ls)) S
theorem no_x_passes : ∀ ds S F Y, ¬ m_x_passes 0 ds S F Y := fun _ _ _ _ h => h
theorem u_x_passes {f : Fl} {i : Itm} {S : Store} {F Y : Post} (h : f.dep ≤ 3) (hn : (i.ls.map (·.1)).Nodup) (hl : i.ls.length ≤ 1000) (hF : F (.bl (lets f i.ls)) S) : m_x_passes 4 [flD f, itD i] S F Y := ⟨f, i, rfl, h, hn, hl, hF⟩
theorem any_has (ls : Lab) (s : Str) : (ls.map fun p => decide (p.1 = s)).any id = (labIn ls s).isSome := by
  unfold labIn
  rw [Option.isSome_map, List.any_map]
  induction ls with
  | nil => rfl
  | cons p ls ih =>
    rw [List.any_cons, List.find?_cons]
    by_cases c : p.1 = s
    · simp [c]
    · simp only [Function.comp, id, decide_eq_false c, Bool.false_or] at ih ⊢
      exact ih
theorem any_in {s : Str} {lo hi : Int} : ∀ {ls : Lab}, (ls.map (·.1)).Nodup → ((ls.map fun p => decide (p.1 = s) && (decide (lo ≤ p.2) && decide (p.2 ≤ hi))).any id) = lets (.inn s lo hi) ls
  | [], _ => rfl
  | p :: ls, h => by
    rw [List.map_cons, List.nodup_cons] at h
    have ih := any_in (s := s) (lo := lo) (hi := hi) h.2
    rw [List.map_cons, List.any_cons, ih]
    simp only [lets, labIn, List.find?_cons, id]
    by_cases c : p.1 = s
    · have hn : (ls.find? fun q => decide (q.1 = s)) = none := List.find?_eq_none.mpr fun q hq => by
        simp only [decide_eq_true_eq]
        intro e
        exact h.1 (by rw [c, ← e]; exact List.mem_map_of_mem hq)
      rw [hn]
      simp [c]
    · rw [decide_eq_false c]
      simp
theorem h_x_passes {fs : List MSp} {d : Nat}  (q_x_passes : fs[K_x_passes]? = some (m_x_passes d)) : Kp fs glD i_x_passes n_x_passes.length p_x_passes.length (m_x_passes (d + 1)) := by
  intro ds S0 F Y h _ _
  obtain ⟨f, i, rfl, hd, hn, hl, hF⟩ := h
  cases f with
  | all =>
    simp only [flD, lets] at *
    simp only [startD, List.map_cons, List.map_nil, List.length_cons, List.length_nil, List.cons_append, List.nil_append, Nat.reduceAdd, Nat.reduceSub, List.replicate]
    walk_at "M.w"
    refine if_F (by decide) ?_
    walk_at "M.w"
    refine if_F (by decide) ?_
    walk_at "M.w"
    refine if_F (by decide) ?_
    walk_at "M.w"
    refine if_F (by decide) ?_
    walk_at "M.w"
    refine if_T (by decide) ?_
    exact Fin.same trivial hF
  | has s =>
    simp only [flD] at *
    simp only [startD, List.map_cons, List.map_nil, List.length_cons, List.length_nil, List.cons_append, List.nil_append, Nat.reduceAdd, Nat.reduceSub, List.replicate]
    walk_at "M.w"
    refine if_T (by decide) ?_
    walk_at "M.w"
    refine Lc_map (as := i.ls) (inj := lbD) (fun p => .bl (decide (p.1 = s))) (by omega) trivial (fun p _ P hP => ?_) ?_
    · walk_at "M.w"
      exact hP
    walk_at "M.w"
    refine V_any (ns := i.ls.map fun p => decide (p.1 = s)) (by rw [List.map_map]; rfl) ?_
    rw [any_has]
    exact Fin.same trivial hF
  | inn s lo hi =>
    simp only [flD] at *
    simp only [startD, List.map_cons, List.map_nil, List.length_cons, List.length_nil, List.cons_append, List.nil_append, Nat.reduceAdd, Nat.reduceSub, List.replicate]
    walk_at "M.w"
    refine if_F (by decide) ?_
    walk_at "M.w"
    refine if_T (by decide) ?_
    walk_at "M.w"
    refine Lc_map (as := i.ls) (inj := lbD) (fun p => .bl (decide (p.1 = s) && (decide (lo ≤ p.2) && decide (p.2 ≤ hi)))) (by omega) trivial (fun p _ P hP => ?_) ?_
    · walk_at "M.w"
      refine if_C (fun c => ?_) fun c => ?_
      · rw [c, Bool.true_and] at hP
        walk_at "M.w"
        refine if_C (fun c => ?_) fun c => ?_
        · rw [c, Bool.true_and] at hP
          walk_at "M.w"
          exact hP
        · rw [c, Bool.false_and] at hP
          walk_at "M.w"
          exact hP
      · rw [c, Bool.false_and] at hP
        walk_at "M.w"
        exact hP
    walk_at "M.w"
    refine V_any (ns := i.ls.map fun p => decide (p.1 = s) && (decide (lo ≤ p.2) && decide (p.2 ≤ hi))) (by rw [List.map_map]; rfl) ?_
    rw [any_in hn]
    exact Fin.same trivial hF
  | not f =>
    cases d with
    | zero => simp [Fl.dep] at hd
    | succ d =>
    simp only [flD, lets, Fl.dep] at *
    simp only [startD, List.map_cons, List.map_nil, List.length_cons, List.length_nil, List.cons_append, List.nil_append, Nat.reduceAdd, Nat.reduceSub, List.replicate]
    walk_at "M.w"
    refine if_F (by decide) ?_
    walk_at "M.w"
    refine if_F (by decide) ?_
    walk_at "M.w"
    refine if_T (by decide) ?_
    walk_at "M.w"
    refine ⟨f, i, rfl, by omega, hn, hl, ?_⟩
    walk_at "M.w"
    exact Fin.same trivial hF
  | and f g =>
    cases d with
    | zero => simp [Fl.dep] at hd
    | succ d =>
    simp only [flD, lets, Fl.dep] at *
    simp only [startD, List.map_cons, List.map_nil, List.length_cons, List.length_nil, List.cons_append, List.nil_append, Nat.reduceAdd, Nat.reduceSub, List.replicate]
    walk_at "M.w"
    refine if_F (by decide) ?_
    walk_at "M.w"
    refine if_F (by decide) ?_
    walk_at "M.w"
    refine if_F (by decide) ?_
    walk_at "M.w"
    refine if_T (by decide) ?_
    walk_at "M.w"
    rw [cut1]
    refine Lc_map (as := [f, g]) (inj := flD) (fun x => .bl (lets x i.ls)) (by simp) trivial (fun x hx P hP => ?_) ?_
    · have : x.dep ≤ d := by
        simp only [List.mem_cons, List.not_mem_nil, or_false] at hx
        rcases hx with rfl | rfl <;> omega
      walk_at "M.w"
      exact ⟨x, i, rfl, this, hn, hl, hP⟩
    walk_at "M.w"
    refine V_all (ns := [lets f i.ls, lets g i.ls]) rfl ?_
    exact Fin.same trivial (by simpa using hF)
  | or f g =>
    cases d with
    | zero => simp [Fl.dep] at hd
    | succ d =>
    simp only [flD, lets, Fl.dep] at *
    simp only [startD, List.map_cons, List.map_nil, List.length_cons, List.length_nil, List.cons_append, List.nil_append, Nat.reduceAdd, Nat.reduceSub, List.replicate]
    walk_at "M.w"
    refine if_F (by decide) ?_
    walk_at "M.w"
    refine if_F (by decide) ?_
    walk_at "M.w"
    refine if_F (by decide) ?_
    walk_at "M.w"
    refine if_F (by decide) ?_
    walk_at "M.w"
    refine if_F (by decide) ?_
    walk_at "M.w"
    rw [cut1]
    refine Lc_map (as := [f, g]) (inj := flD) (fun x => .bl (lets x i.ls)) (by simp) trivial (fun x hx P hP => ?_) ?_
    · have : x.dep ≤ d := by
        simp only [List.mem_cons, List.not_mem_nil, or_false] at hx
        rcases hx with rfl | rfl <;> omega
      walk_at "M.w"
      exact ⟨x, i, rfl, this, hn, hl, hP⟩
    walk_at "M.w"
    refine V_any (ns := [lets f i.ls, lets g i.ls]) rfl ?_
    exact Fin.same trivial (by simpa using hF)
local macro_rules | `(tactic| walk_at "M.x") => `(tactic| ((with_reducible refine' u_x_passes ?h0 ?h1 ?h2 ?k); (case' h0 => try first | with_reducible assumption | omega | (exact ⟨by omega, by omega⟩)); (case' h1 => try first | with_reducible assumption | omega | (exact ⟨by omega, by omega⟩)); (case' h2 => try first | with_reducible assumption | omega | (exact ⟨by omega, by omega⟩))))
def itOK (p : Nat) (i : Itm) : Prop := i.v.length = p ∧ (∀ x ∈ i.v, x.natAbs ≤ 20000) ∧ (i.ls.map (·.1)).Nodup ∧ i.ls.length ≤ 2 ∧ 0 ≤ i.key ∧ i.key ≤ 1000
theorem itOK.vb {p : Nat} {i : Itm} (h : itOK p i) (hp : p ≤ 8) : VB i.v := ⟨by rw [h.1]; omega, fun x hx => by have := h.2.1 x hx; omega⟩
def stOK (p : Nat) (st : List Itm) : Prop := keysOK st ∧ st.length ≤ 100 ∧ ∀ i ∈ st, itOK p i
theorem stOK.vecs {p : Nat} {st : List Itm} (h : stOK p st) (hp : p ≤ 8) : vecsOK st := ⟨by have := h.2.1; omega, fun i hi => (h.2.2 i hi).vb hp⟩
abbrev quD (k : Str) (v : List Int) (n : Int) (f : Fl) : D := .tup [.str k, vec v, .int n, flD f]
def quOK (p : Nat) (k : Str) (v : List Int) (f : Fl) : Prop := (1 ≤ p ∧ p ≤ 8) ∧ isK k ∧ v.length = p ∧ (∀ x ∈ v, x.natAbs ≤ 20000) ∧ f.dep ≤ 3 ∧ dp 10 (flD f)
theorem quOK.vb {p : Nat} {k : Str} {v : List Int} {f : Fl} (h : quOK p k v f) : VB v := ⟨by rw [h.2.2.1]; have := h.1.2; omega, fun x hx => by have := h.2.2.2.1 x hx; omega⟩
def m_x_pairs : MSp := fun ds S F _ => ∃ p st k v n f, ds = [stD st, quD k v n f] ∧ stOK p st ∧ quOK p k v f ∧ F (.lst ((pairsOf k v f st).map pr)) S
theorem u_x_pairs {p : Nat} {st : List Itm} {k : Str} {v : List Int} {n : Int} {f : Fl} {S : Store} {F Y : Post} (h : stOK p st) (q : quOK p k v f) (hF : F (.lst ((pairsOf k v f st).map pr)) S) : m_x_pairs [stD st, quD k v n f] S F Y := ⟨p, st, k, v, n, f, rfl, h, q, hF⟩
theorem h_x_pairs {fs : List MSp} (q_x_passes : fs[K_x_passes]? = some (m_x_passes 4)) (q_x_far : fs[K_x_far]? = some m_x_far) : Kp fs glD i_x_pairs n_x_pairs.length p_x_pairs.length m_x_pairs := by
  intro ds S0 F Y h _ _
  obtain ⟨p, st, k, v, n, f, rfl, hs, hq, hF⟩ := h
  have vb := hq.vb
  obtain ⟨⟨p1, p8⟩, hk, vl, vx, fd, _⟩ := hq
  have sl := hs.2.1
  simp only [startD, List.map_cons, List.map_nil, List.length_cons, List.length_nil, List.cons_append, List.nil_append, Nat.reduceAdd, Nat.reduceSub, List.replicate]
  walk_at "M.w"
  refine Lc_filter (as := st) (inj := itD) (fun i => lets f i.ls) (fun i => pr (prI k v i)) (by omega) trivial (fun i hi P R hP hR => ?_) ?_
  · have io := hs.2.2 i hi
    have ib := io.vb p8
    have i3 := io.2.2.1
    have i4 : i.ls.length ≤ 1000 := Nat.le_trans io.2.2.2.1 (by decide)
    have i5 : v.length = i.v.length := by rw [vl, io.1]
    have i6 : 0 < v.length := by omega
    walk_at "M.w"
    refine if_C (fun c => ?_) fun c => hR c
    have hP := hP c
    walk_at "M.w"
    exact hP
  walk_at "M.w"
  have e : ((st.filter fun i => lets f i.ls).map fun i => pr (prI k v i)) = ((pass f st).map (prI k v)).map pr := by rw [List.map_map]; rfl
  rw [e]
  refine V_sortedP rfl ?_
  exact Fin.same (low_prs (ps := pairsOf k v f st)) hF
local macro_rules | `(tactic| walk_at "M.x") => `(tactic| ((with_reducible refine' u_x_pairs ?h0 ?h1 ?k); (case' h0 => try first | with_reducible assumption | omega | (exact ⟨by omega, by omega⟩)); (case' h1 => try first | with_reducible assumption | omega | (exact ⟨by omega, by omega⟩))))
def m_x_news : MSp := fun ds S F _ => ∃ as bs, ds = [.tup (as.map pr), .tup (bs.map pr)] ∧ as.length ≤ 10000 ∧ bs.length ≤ 10000 ∧ F (news as bs) S
theorem u_x_news {as bs : List (Int × Int)} {S : Store} {F Y : Post} (h : as.length ≤ 10000) (h2 : bs.length ≤ 10000) (hF : F (news as bs) S) : m_x_news [.tup (as.map pr), .tup (bs.map pr)] S F Y := ⟨as, bs, rfl, h, h2, hF⟩
theorem h_x_news {fs : List MSp}  : Kp fs glD i_x_news n_x_news.length p_x_news.length m_x_news := by
  intro ds S0 F Y h _ _
  obtain ⟨as, bs, rfl, ha, hb, hF⟩ := h
  simp only [startD, List.map_cons, List.map_nil, List.length_cons, List.length_nil, List.cons_append, List.nil_append, Nat.reduceAdd, Nat.reduceSub, List.replicate]
  walk_at "M.w"
  refine Lc_filter (as := as) (inj := pr) (fun p => !decide (p ∈ bs)) pr (by omega) trivial (fun p _ P R hP hR => ?_) ?_
  · walk_at "M.w"
    refine V_niP ?_
    walk_at "M.w"
    exact if_C hP hR
  walk_at "M.w"
  refine Lc_filter (as := bs) (inj := pr) (fun p => !decide (p ∈ as)) pr (by omega) trivial (fun p _ P R hP hR => ?_) ?_
  · walk_at "M.w"
    refine V_niP ?_
    walk_at "M.w"
    exact if_C hP hR
  walk_at "M.w"
  exact Fin.same low_news hF
local macro_rules | `(tactic| walk_at "M.x") => `(tactic| ((with_reducible refine' u_x_news ?h0 ?h1 ?k); (case' h0 => try first | with_reducible assumption | omega | (exact ⟨by omega, by omega⟩)); (case' h1 => try first | with_reducible assumption | omega | (exact ⟨by omega, by omega⟩))))
theorem near_len {k : Str} {v : List Int} {q : Int} {f : Fl} {st : List Itm} : (near k v q f st).length ≤ st.length ∧ (pairsOf k v f st).length ≤ st.length := by
  have h2 : (pairsOf k v f st).length ≤ st.length := by
    unfold pairsOf
    rw [srtP_perm.length_eq, List.length_map]
    exact List.length_filter_le _ _
  exact ⟨Nat.le_trans (List.length_filter_le _ _) h2, h2⟩
def m_x_due : MSp := fun ds S F _ => ∃ p st k v n f q, ds = [stD st, quD k v n f, .int q] ∧ stOK p st ∧ quOK p k v f ∧ F (.tup ((near k v q f st).map pr)) S
theorem u_x_due {p : Nat} {st : List Itm} {k : Str} {v : List Int} {n q : Int} {f : Fl} {S : Store} {F Y : Post} (h : stOK p st) (hq : quOK p k v f) (hF : F (.tup ((near k v q f st).map pr)) S) : m_x_due [stD st, quD k v n f, .int q] S F Y := ⟨p, st, k, v, n, f, q, rfl, h, hq, hF⟩
theorem h_x_due {fs : List MSp} (q_x_pairs : fs[K_x_pairs]? = some m_x_pairs) : Kp fs glD i_x_due n_x_due.length p_x_due.length m_x_due := by
  intro ds S0 F Y h _ _
  obtain ⟨p, st, k, v, n, f, q, rfl, hs, hq, hF⟩ := h
  have sl := hs.2.1
  have lp := (near_len (k := k) (v := v) (q := q) (f := f) (st := st)).2
  simp only [startD, List.map_cons, List.map_nil, List.length_cons, List.length_nil, List.cons_append, List.nil_append, Nat.reduceAdd, Nat.reduceSub, List.replicate]
  walk_at "M.w"
  refine Lc_filter (as := pairsOf k v f st) (inj := pr) (fun p => decide (p.1 ≤ q)) pr (by omega) trivial (fun p _ P R hP hR => ?_) ?_
  · walk_at "M.w"
    exact if_C hP hR
  walk_at "M.w"
  exact Fin.same (low_prs (ps := near k v q f st)) hF
local macro_rules | `(tactic| walk_at "M.x") => `(tactic| ((with_reducible refine' u_x_due ?h0 ?h1 ?k); (case' h0 => try first | with_reducible assumption | omega | (exact ⟨by omega, by omega⟩)); (case' h1 => try first | with_reducible assumption | omega | (exact ⟨by omega, by omega⟩))))
def m_x_sieve : MSp := fun ds S F _ => ∃ T, ds = [.ref 1] ∧ GoodH T S ∧ ∀ f S', f.dep ≤ 3 → dp 10 (flD f) → GoodH T S' → F (flD f) S'
theorem u_x_sieve {T S : Store} {F Y : Post} (g : GoodH T S) (hF : ∀ f S', f.dep ≤ 3 → dp 10 (flD f) → GoodH T S' → F (flD f) S') : m_x_sieve [.ref 1] S F Y := ⟨T, rfl, g, hF⟩
def flPart (f : Fl) : Prop := f.dep ≤ 1 ∧ dp 9 (flD f)
theorem dp_up {n m : Nat} {d : D} (h : dp n d) (hn : n ≤ m) : dp m d := ⟨h.1, Nat.le_trans h.2 hn⟩
theorem dp_list {n : Nat} {ds : List D} (h : ∀ d ∈ ds, dp n d) : dp (n + 1) (.tup ds) := dp_tup h
def flParts : List D := [flD .all, flD (.has "a"), flD (.has "bb"), flD (.inn "a" (0 - 1) 1), flD (.inn "bb" 1 2), flD (.not (.has "a"))]
theorem fl_of {d : D} (h : d ∈ flParts) : ∃ f, d = flD f ∧ flPart f := by
  have s : ∀ x : Str, PyData.strOk x = true → dp 8 (.str x) := fun x hx => dp_up (dp_str hx) (by decide)
  have i : ∀ z : Int, dp 8 (.int z) := fun z => dp_up dp_int (by decide)
  simp only [flParts, List.mem_cons, List.not_mem_nil, or_false] at h
  rcases h with rfl | rfl | rfl | rfl | rfl | rfl
  · exact ⟨_, rfl, by decide, dp_list (by simp only [List.mem_cons, List.not_mem_nil, or_false, forall_eq]; exact s _ (by decide +kernel))⟩
  · exact ⟨_, rfl, by decide, dp_list (by simp only [List.mem_cons, List.not_mem_nil, or_false, forall_eq_or_imp, forall_eq]; exact ⟨s _ (by decide +kernel), s _ (by decide +kernel)⟩)⟩
  · exact ⟨_, rfl, by decide, dp_list (by simp only [List.mem_cons, List.not_mem_nil, or_false, forall_eq_or_imp, forall_eq]; exact ⟨s _ (by decide +kernel), s _ (by decide +kernel)⟩)⟩
  · exact ⟨_, rfl, by decide, dp_list (by simp only [List.mem_cons, List.not_mem_nil, or_false, forall_eq_or_imp, forall_eq]; exact ⟨s _ (by decide +kernel), s _ (by decide +kernel), i _, i _⟩)⟩
  · exact ⟨_, rfl, by decide, dp_list (by simp only [List.mem_cons, List.not_mem_nil, or_false, forall_eq_or_imp, forall_eq]; exact ⟨s _ (by decide +kernel), s _ (by decide +kernel), i _, i _⟩)⟩
  · have hh : dp 8 (flD (.has "a")) := dp_up (n := 2) (dp_list (by simp only [List.mem_cons, List.not_mem_nil, or_false, forall_eq_or_imp, forall_eq]; exact ⟨dp_str (by decide +kernel), dp_str (by decide +kernel)⟩)) (by decide)
    exact ⟨_, rfl, by decide, dp_list (by simp only [List.mem_cons, List.not_mem_nil, or_false, forall_eq_or_imp, forall_eq]; exact ⟨s _ (by decide +kernel), hh⟩)⟩
theorem h_x_sieve {fs : List MSp} (q_x_draw : fs[K_x_draw]? = some m_x_draw) (q_x_pick : fs[K_x_pick]? = some m_x_pick) : Kp fs glD i_x_sieve n_x_sieve.length p_x_sieve.length m_x_sieve := by
  intro ds S0 F Y h _ _
  obtain ⟨T, rfl, g0, hF⟩ := h
  simp only [startD, List.map_cons, List.map_nil, List.length_cons, List.length_nil, List.cons_append, List.nil_append, Nat.reduceAdd, Nat.reduceSub, List.replicate]
  walk_at "M.w"
  intro r S1 r0 r1 g1
  walk_at "M.w"
  refine if_C (fun c => ?_) fun c => ?_
  · walk_at "M.w"
    exact g1.fin g0 (low_fl .all) (hF .all S1 (by decide) (dp_up (dp_list (n := 1) (by simp only [List.mem_cons, List.not_mem_nil, or_false, forall_eq]; exact dp_str (by decide +kernel))) (by decide)) g1)
  walk_at "M.w"
  refine if_C (fun c2 => ?_) fun c2 => ?_
  · walk_at "M.w"
    refine pick_L (xs := flParts) g1 (by simp [flParts]) (by simp [flParts]) fun d hd S2 g2 => ?_
    obtain ⟨f, rfl, f1, f2⟩ := fl_of hd
    exact g2.fin g0 (low_fl f) (hF f S2 (by omega) (dp_up f2 (by decide)) g2)
  walk_at "M.w"
  refine pick_L g1 (by simp) (by simp) fun d hd S2 g2 => ?_
  walk_at "M.w"
  refine pick_L (xs := flParts) g2 (by simp [flParts]) (by simp [flParts]) fun x hx S3 g3 => ?_
  obtain ⟨a, rfl, a1, a2⟩ := fl_of hx
  walk_at "M.w"
  refine pick_L (xs := flParts) g3 (by simp [flParts]) (by simp [flParts]) fun y hy S4 g4 => ?_
  obtain ⟨b, rfl, b1, b2⟩ := fl_of hy
  walk_at "M.w"
  simp only [List.mem_cons, List.not_mem_nil, or_false] at hd
  rcases hd with rfl | rfl
  · exact g4.fin g0 (low_fl (.and a b)) (hF (.and a b) S4 (by simp only [Fl.dep]; omega) (dp_list (by simp only [List.mem_cons, List.not_mem_nil, or_false, forall_eq_or_imp, forall_eq]; exact ⟨dp_up (dp_str (by decide +kernel)) (by decide), a2, b2⟩)) g4)
  · exact g4.fin g0 (low_fl (.or a b)) (hF (.or a b) S4 (by simp only [Fl.dep]; omega) (dp_list (by simp only [List.mem_cons, List.not_mem_nil, or_false, forall_eq_or_imp, forall_eq]; exact ⟨dp_up (dp_str (by decide +kernel)) (by decide), a2, b2⟩)) g4)
local macro_rules | `(tactic| walk_at "M.x") => `(tactic| ((with_reducible refine' u_x_sieve ?h0 ?k); (case' h0 => try first | with_reducible assumption | omega | (exact ⟨by omega, by omega⟩))))
def vcOK (p : Nat) (v : List Int) : Prop := v.length = p ∧ ∀ x ∈ v, x.natAbs ≤ 20000
def m_x_vector : MSp := fun ds S F _ => ∃ T, ∃ p : Nat, ds = [.ref 1, .int (p : Nat)] ∧ p ≤ 8 ∧ GoodH T S ∧ ∀ v S', vcOK p v → GoodH T S' → F (vec v) S'
theorem u_x_vector {T S : Store} {p : Nat} {F Y : Post} (hp : p ≤ 8) (g : GoodH T S) (hF : ∀ v S', vcOK p v → GoodH T S' → F (vec v) S') : m_x_vector [.ref 1, .int (p : Nat)] S F Y := ⟨T, p, rfl, hp, g, hF⟩
theorem h_x_vector {fs : List MSp} (q_x_pick : fs[K_x_pick]? = some m_x_pick) (q_x_draw : fs[K_x_draw]? = some m_x_draw) : Kp fs glD i_x_vector n_x_vector.length p_x_vector.length m_x_vector := by
  intro ds S0 F Y h _ _
  obtain ⟨T, p, rfl, hp, g0, hF⟩ := h
  simp only [startD, List.map_cons, List.map_nil, List.length_cons, List.length_nil, List.cons_append, List.nil_append, Nat.reduceAdd, Nat.reduceSub, List.replicate]
  walk_at "M.w"
  refine pick_I (lo := 3) (hi := 20000) g0 (by simp) (by simp) (by
    intro d hd
    simp at hd
    rcases hd with rfl | rfl | rfl <;> exact ⟨_, rfl, by omega, by omega⟩) fun wide S1 w0 w1 g1 => ?_
  walk_at "M.w"
  rw [rng_map]
  refine Lc_inv (as := List.range p) (inj := fun i => .int (i : Nat)) (fun i acc S => GoodH T S ∧ ∃ as : List Int, acc = as.map .int ∧ as.length = i ∧ ∀ a ∈ as, a.natAbs ≤ 20000) (by rw [List.length_range]; omega) ⟨g1, [], rfl, rfl, by simp⟩ (fun _ _ _ _ => trivial) ?_ ?_
  · rintro acc S ⟨g, as, rfl, hal, hab⟩
    rw [List.length_range] at hal
    walk_at "M.w"
    exact g.fin g0 lowD_vec (hF as S ⟨hal, hab⟩ g)
  · rintro i a acc S ha ⟨g, as, rfl, hal, hab⟩
    walk_at "M.w"
    intro r S2 r0 r1 g2
    walk_at "M.w"
    refine ⟨g2, as ++ [r - wide / 2], by simp, by simp [hal], fun z hz => ?_⟩
    rcases List.mem_append.mp hz with q | q
    · exact hab z q
    · simp at q; subst q; omega
local macro_rules | `(tactic| walk_at "M.x") => `(tactic| ((with_reducible refine' u_x_vector ?h0 ?h1 ?k); (case' h0 => try first | with_reducible assumption | omega | (exact ⟨by omega, by omega⟩)); (case' h1 => try first | with_reducible assumption | omega | (exact ⟨by omega, by omega⟩))))
theorem fzs_labs {k : Nat} {S : Store} (ls : Lab) : Fzs k S (ls.map lbD) (ls.map lbD) := Fzs.low (low_lab (ls := ls))
def m_x_item : MSp := fun ds S F _ => ∃ T c, ∃ p : Nat, ds = [.ref 1, .int c, .int (p : Nat)] ∧ p ≤ 8 ∧ (0 ≤ c ∧ c ≤ 1000) ∧ GoodH T S ∧ ∀ i S', i.key = c → itOK p i → GoodH T S' → F (itD i) S'
theorem u_x_item {T S : Store} {c : Int} {p : Nat} {F Y : Post} (hp : p ≤ 8) (hc : 0 ≤ c ∧ c ≤ 1000) (g : GoodH T S) (hF : ∀ i S', i.key = c → itOK p i → GoodH T S' → F (itD i) S') : m_x_item [.ref 1, .int c, .int (p : Nat)] S F Y := ⟨T, c, p, rfl, hp, hc, g, hF⟩
theorem h_x_item {fs : List MSp} (q_x_draw : fs[K_x_draw]? = some m_x_draw) (q_x_vector : fs[K_x_vector]? = some m_x_vector) : Kp fs glD i_x_item n_x_item.length p_x_item.length m_x_item := by
  intro ds S0 F Y h _ _
  obtain ⟨T, c, p, rfl, hp, hc, g0, hF⟩ := h
  have g1 : GoodH (T ++ [.lst []]) (S0 ++ [.lst []]) := g0.pushN
  simp only [startD, List.map_cons, List.map_nil, List.length_cons, List.length_nil, List.cons_append, List.nil_append, Nat.reduceAdd, Nat.reduceSub, List.replicate]
  walk_at "M.w"
  rw [g0.len]
  have last : ∀ (ls : List (Str × Int)) (S : Store), GoodH (T ++ [.lst (ls.map lbD)]) S → (ls.map (·.1)).Nodup → ls.length ≤ 2 → wSs l_x_item_6 ⟨fs, glD, FX S0 Y, none⟩ (EndK S0 F) [some (.ref 1), some (.int c), some (.int (p : Nat)), some (.ref (T.length + 2))] S := fun ls S g hn hl => by
    walk_at "M.w"
    intro v S2 hv g2
    walk_at "M.w"
    refine V_tup (lsOf_cell g2.cell) ?_
    walk_at "M.w"
    exact g2.finZ g0 (.low (low_it (i := ⟨c, v, ls⟩))) fun S' g' => hF ⟨c, v, ls⟩ S' rfl ⟨hv.1, hv.2, hn, hl, hc⟩ g'
  have mid : ∀ (ls : List (Str × Int)) (S : Store), GoodH (T ++ [.lst (ls.map lbD)]) S → (∀ q ∈ ls, q.1 = "a") → ls.length ≤ 1 → wSs l_x_item_4 ⟨fs, glD, FX S0 Y, none⟩ (EndK S0 F) [some (.ref 1), some (.int c), some (.int (p : Nat)), some (.ref (T.length + 2))] S := fun ls S g ha hl => by
    have hn : (ls.map (·.1)).Nodup := by
      rcases ls with _ | ⟨a, _ | ⟨b, t⟩⟩
      · simp
      · simp
      · simp at hl
    walk_at "M.w"
    intro r S2 r0 r1 g2
    walk_at "M.w"
    refine if_C (fun c0 => ?_) fun c0 => ?_
    · walk_at "M.w"
      refine A_some (lsOf_cell g2.cell) ?_
      walk_at "M.w"
      intro z S3 z0 z1 g3
      walk_at "M.w"
      refine V_append g3.cell (by rw [List.length_map]; omega) ?_
      refine Ss_nil ?_
      have g4 := g3.setc (d := .lst (ls.map lbD ++ [lbD (("bb" : Str), z)]))
      have e : ls.map lbD ++ [lbD (("bb" : Str), z)] = (ls ++ [(("bb" : Str), z)]).map lbD := by rw [List.map_append]; rfl
      rw [e] at g4
      rw [show (ls.map lbD ++ [D.tup [.str "bb", .int z]]) = (ls ++ [(("bb" : Str), z)]).map lbD from e]
      refine last (ls ++ [(("bb" : Str), z)]) _ g4 ?_ (by rw [List.length_append]; simp; omega)
      rw [List.map_append, List.nodup_append]
      refine ⟨hn, by simp, fun a hx b hb => ?_⟩
      obtain ⟨q, hq, rfl⟩ := List.mem_map.mp hx
      simp at hb
      subst hb
      rw [ha q hq]
      decide
    · refine Ss_nil ?_
      exact last ls S2 g2 hn (by omega)
  intro r S2 r0 r1 g2
  walk_at "M.w"
  refine if_C (fun c0 => ?_) fun c0 => ?_
  · walk_at "M.w"
    refine A_some (lsOf_cell g2.cell) ?_
    walk_at "M.w"
    intro z S3 z0 z1 g3
    walk_at "M.w"
    refine V_append g3.cell (by simp) ?_
    refine Ss_nil ?_
    have g4 := g3.setc (d := .lst (([(("a" : Str), z - 2)] : Lab).map lbD))
    exact mid [(("a" : Str), z - 2)] _ g4 (by simp) (by simp)
  · refine Ss_nil ?_
    exact mid [] S2 g2 (by simp) (by simp)
local macro_rules | `(tactic| walk_at "M.x") => `(tactic| ((with_reducible refine' u_x_item ?h0 ?h1 ?h2 ?k); (case' h0 => try first | with_reducible assumption | omega | (exact ⟨by omega, by omega⟩)); (case' h1 => try first | with_reducible assumption | omega | (exact ⟨by omega, by omega⟩)); (case' h2 => try first | with_reducible assumption | omega | (exact ⟨by omega, by omega⟩))))
def m_x_question : MSp := fun ds S F _ => ∃ T most, ∃ p : Nat, ds = [.ref 1, .int (p : Nat), .int most] ∧ (1 ≤ p ∧ p ≤ 8) ∧ (0 < most ∧ most < 100) ∧ GoodH T S ∧ ∀ k v n f S', quOK p k v f → GoodH T S' → F (quD k v n f) S'
theorem u_x_question {T S : Store} {most : Int} {p : Nat} {F Y : Post} (hp : 1 ≤ p ∧ p ≤ 8) (hm : 0 < most ∧ most < 100) (g : GoodH T S) (hF : ∀ k v n f S', quOK p k v f → GoodH T S' → F (quD k v n f) S') : m_x_question [.ref 1, .int (p : Nat), .int most] S F Y := ⟨T, most, p, rfl, hp, hm, g, hF⟩
theorem h_x_question {fs : List MSp} (q_x_draw : fs[K_x_draw]? = some m_x_draw) (q_x_pick : fs[K_x_pick]? = some m_x_pick) (q_x_vector : fs[K_x_vector]? = some m_x_vector) (q_x_sieve : fs[K_x_sieve]? = some m_x_sieve) : Kp fs glD i_x_question n_x_question.length p_x_question.length m_x_question := by
  intro ds S0 F Y h _ _
  obtain ⟨T, most, p, rfl, hp, ⟨m0, m1⟩, g0, hF⟩ := h
  have p8 := hp.2
  simp only [startD, List.map_cons, List.map_nil, List.length_cons, List.length_nil, List.cons_append, List.nil_append, Nat.reduceAdd, Nat.reduceSub, List.replicate]
  walk_at "M.w"
  refine pick_I (lo := 1) (hi := 200) g0 (by simp) (by simp) (by
    intro d hd
    simp at hd
    rcases hd with rfl | rfl <;> exact ⟨_, rfl, by omega, by omega⟩) fun m S1 w0 w1 g1 => ?_
  walk_at "M.w"
  intro n S2 n0 n1 g2
  walk_at "M.w"
  refine pick_L g2 (by simp) (by simp) fun d hd S3 g3 => ?_
  obtain ⟨k, rfl, hk⟩ : ∃ k, d = .str k ∧ isK k := by
    simp only [List.mem_cons, List.not_mem_nil, or_false] at hd
    rcases hd with rfl | rfl | rfl | rfl
    · exact ⟨_, rfl, .inl rfl⟩
    · exact ⟨_, rfl, .inr (.inl rfl)⟩
    · exact ⟨_, rfl, .inr (.inr (.inl rfl))⟩
    · exact ⟨_, rfl, .inr (.inr (.inr rfl))⟩
  walk_at "M.w"
  intro v S4 hv g4
  walk_at "M.w"
  intro f S5 f1 f2 g5
  walk_at "M.w"
  exact g5.fin g0 ⟨trivial, lowD_vec, trivial, low_fl f, trivial⟩ (hF k v _ f S5 ⟨hp, hk, hv.1, hv.2, f1, f2⟩ g5)
local macro_rules | `(tactic| walk_at "M.x") => `(tactic| ((with_reducible refine' u_x_question ?h0 ?h1 ?h2 ?k); (case' h0 => try first | with_reducible assumption | omega | (exact ⟨by omega, by omega⟩)); (case' h1 => try first | with_reducible assumption | omega | (exact ⟨by omega, by omega⟩)); (case' h2 => try first | with_reducible assumption | omega | (exact ⟨by omega, by omega⟩))))
theorem put_new : ∀ {st : List Itm} {i : Itm}, atS st i.key = none → putKs (stK st) (.inl i.key) = stK (st ++ [i]) ∧ putDs (stK st) (stV st) (.inl i.key) (itD i) = stV (st ++ [i]) := fun {st i} h => by
  have hh : hasK (stK st) (.inl i.key) = false := by rw [hasK_st, h]; rfl
  unfold putKs putDs
  rw [hh]
  simp
theorem atS_none {st : List Itm} {c : Int} (h : ∀ i ∈ st, i.key ≠ c) : atS st c = none := List.find?_eq_none.mpr fun i hi => by simpa using h i hi
theorem keys_push {st : List Itm} {i : Itm} (h : keysOK st) (hn : ∀ j ∈ st, j.key ≠ i.key) : keysOK (st ++ [i]) := by
  unfold keysOK at *
  rw [List.map_append, List.nodup_append]
  refine ⟨h, by simp, fun a ha b hb => ?_⟩
  obtain ⟨j, hj, rfl⟩ := List.mem_map.mp ha
  simp at hb
  subst hb
  exact hn j hj
abbrev stC (st : List Itm) : Cell := .dct false (stK st) (stV st)
def m_x_start : MSp := fun ds S F _ => ∃ T, ∃ ks : List Int, ∃ p : Nat, ds = [.ref 1, .lst (ks.map .int), .int (p : Nat)] ∧ p ≤ 8 ∧ ks.Nodup ∧ ks.length ≤ 50 ∧ (∀ c ∈ ks, 0 ≤ c ∧ c ≤ 1000) ∧ GoodH T S ∧ ∀ st S', stOK p st → st.length ≤ 50 → GoodH T S' → F (stD st) S'
theorem u_x_start {T S : Store} {ks : List Int} {p : Nat} {F Y : Post} (hp : p ≤ 8) (hn : ks.Nodup) (hl : ks.length ≤ 50) (hb : ∀ c ∈ ks, 0 ≤ c ∧ c ≤ 1000) (g : GoodH T S) (hF : ∀ st S', stOK p st → st.length ≤ 50 → GoodH T S' → F (stD st) S') : m_x_start [.ref 1, .lst (ks.map .int), .int (p : Nat)] S F Y := ⟨T, ks, p, rfl, hp, hn, hl, hb, g, hF⟩
theorem h_x_start {fs : List MSp} (q_x_draw : fs[K_x_draw]? = some m_x_draw) (q_x_item : fs[K_x_item]? = some m_x_item) : Kp fs glD i_x_start n_x_start.length p_x_start.length m_x_start := by
  intro ds S0 F Y h _ _
  obtain ⟨T, ks, p, rfl, hp, hn, hl, hb, g0, hF⟩ := h
  have g1 : GoodH (T ++ [stC []]) (S0 ++ [.dct false [] []]) := g0.pushN
  simp only [startD, List.map_cons, List.map_nil, List.length_cons, List.length_nil, List.cons_append, List.nil_append, Nat.reduceAdd, Nat.reduceSub, List.replicate]
  walk_at "M.w"
  rw [g0.len]
  refine For_list (as := ks) (inj := .int) (fun j e S => ∃ st w4, GoodH (T ++ [stC st]) S ∧ keysOK st ∧ st.length ≤ j ∧ j ≤ 50 ∧ (∀ i ∈ st, itOK p i ∧ i.key ∈ ks.take j) ∧ e = [some (.ref 1), some (.lst (ks.map .int)), some (.int (p : Nat)), some (.ref (T.length + 2)), w4]) ⟨[], _, g1, by simp [keysOK], by simp, by omega, by simp, rfl⟩ (fun _ _ _ _ => trivial) ?_ ?_
  · rintro e S ⟨st, w4, g, hk, hsl, _, hi, rfl⟩
    walk_at "M.w"
    exact g.finZ g0 (.refD (Nat.le_refl _) g.cell (Fzs.low (low_st (st := st)))) fun S' g' => hF st S' ⟨hk, by omega, fun i hii => (hi i hii).1⟩ (by omega) g'
  · rintro j c e S hc ⟨st, w4, g, hk, hsl, hj, hi, rfl⟩
    have hjl := (List.getElem?_eq_some_iff.mp hc).1
    have tk : ks.take (j + 1) = ks.take j ++ [c] := by rw [List.take_succ, hc]; rfl
    have cb := hb c (List.mem_of_getElem? hc)
    walk_at "M.w"
    intro r S2 r0 r1 g2
    walk_at "M.w"
    refine if_C (fun c0 => ?_) fun c0 => ?_
    · walk_at "M.w"
      intro i S3 ik io g3
      walk_at "M.w"
      refine V_setC g3.cell (k := .inl c) rfl (by rw [List.length_map]; have : sizeLine = 16777216 := rfl; omega) ?_
      have hne : ∀ m ∈ st, m.key ≠ i.key := fun m hm e => by
        have h1 := (hi m hm).2
        rw [e, ik] at h1
        have h2 : (ks.take (j + 1)).Nodup := hn.sublist (List.take_sublist _ _)
        rw [tk, List.nodup_append] at h2
        exact h2.2.2 c h1 c (by simp) rfl
      obtain ⟨e1, e2⟩ := put_new (atS_none hne)
      rw [← ik, e1, e2]
      have g4 := g3.setc (d := stC (st ++ [i]))
      walk_at "M.w"
      refine ⟨st ++ [i], _, g4, keys_push hk hne, by simp; omega, by omega, fun m hm => ?_, by rw [ik]⟩
      rw [tk]
      rcases List.mem_append.mp hm with q | q
      · exact ⟨(hi m q).1, List.mem_append_left _ (hi m q).2⟩
      · simp at q; subst q; exact ⟨io, by rw [ik]; simp⟩
    · walk_at "M.w"
      exact ⟨st, _, g2, hk, by omega, by omega, fun m hm => ⟨(hi m hm).1, by rw [tk]; exact List.mem_append_left _ (hi m hm).2⟩, rfl⟩
local macro_rules | `(tactic| walk_at "M.x") => `(tactic| ((with_reducible refine' u_x_start ?h0 ?h1 ?h2 ?h3 ?h4 ?k); (case' h0 => try first | with_reducible assumption | omega | (exact ⟨by omega, by omega⟩)); (case' h1 => try first | with_reducible assumption | omega | (exact ⟨by omega, by omega⟩)); (case' h2 => try first | with_reducible assumption | omega | (exact ⟨by omega, by omega⟩)); (case' h3 => try first | with_reducible assumption | omega | (exact ⟨by omega, by omega⟩)); (case' h4 => try first | with_reducible assumption | omega | (exact ⟨by omega, by omega⟩))))
def m_x_deed : MSp := fun ds S F _ => ∃ T st, ∃ ks : List Int, ∃ p : Nat, ds = [.ref 1, stD st, .lst (ks.map .int), .int (p : Nat)] ∧ p ≤ 8 ∧ stOK p st ∧ 0 < ks.length ∧ ks.length ≤ 50 ∧ (∀ c ∈ ks, 0 ≤ c ∧ c ≤ 1000) ∧ GoodH T S ∧ ∀ d S', (∀ i ∈ putsOf d, itOK p i) → GoodH T S' → F (deD d) S'
theorem u_x_deed {T S : Store} {st : List Itm} {ks : List Int} {p : Nat} {F Y : Post} (hp : p ≤ 8) (hs : stOK p st) (h0 : 0 < ks.length) (hl : ks.length ≤ 50) (hb : ∀ c ∈ ks, 0 ≤ c ∧ c ≤ 1000) (g : GoodH T S) (hF : ∀ d S', (∀ i ∈ putsOf d, itOK p i) → GoodH T S' → F (deD d) S') : m_x_deed [.ref 1, stD st, .lst (ks.map .int), .int (p : Nat)] S F Y := ⟨T, st, ks, p, rfl, hp, hs, h0, hl, hb, g, hF⟩
theorem low_de {k : Nat} (d : Deed) : lowD k (deD d) := by
  cases d with
  | take c => exact ⟨trivial, trivial, trivial⟩
  | put i => exact ⟨trivial, low_it, trivial⟩
theorem h_x_deed {fs : List MSp} (q_x_pick : fs[K_x_pick]? = some m_x_pick) (q_x_draw : fs[K_x_draw]? = some m_x_draw) (q_x_vector : fs[K_x_vector]? = some m_x_vector) (q_x_item : fs[K_x_item]? = some m_x_item) : Kp fs glD i_x_deed n_x_deed.length p_x_deed.length m_x_deed := by
  intro ds S0 F Y h _ _
  obtain ⟨T, st, ks, p, rfl, hp, hs, h0, hl, hb, g0, hF⟩ := h
  simp only [startD, List.map_cons, List.map_nil, List.length_cons, List.length_nil, List.cons_append, List.nil_append, Nat.reduceAdd, Nat.reduceSub, List.replicate]
  walk_at "M.w"
  refine pick_L g0 (by rw [List.length_map]; exact h0) (by rw [List.length_map]; omega) fun d hd S1 g1 => ?_
  obtain ⟨c, cm, rfl⟩ := List.mem_map.mp hd
  have cb := hb c cm
  walk_at "M.w"
  intro r S2 r0 r1 g2
  walk_at "M.w"
  refine if_C (fun c0 => ?_) fun c0 => ?_
  · walk_at "M.w"
    exact g2.fin g0 (low_de (.take c)) (hF (.take c) S2 (by simp [putsOf]) g2)
  have last : wSs l_x_deed_8 ⟨fs, glD, FX S0 Y, none⟩ (EndK S0 F) [some (.ref 1), some (stD st), some (.lst (ks.map .int)), some (.int (p : Nat)), some (.int c), some (.int r)] S2 := by
    walk_at "M.w"
    intro i S3 ik io g3
    walk_at "M.w"
    exact g3.fin g0 (low_de (.put i)) (hF (.put i) S3 (by simp [putsOf]; exact io) g3)
  have hin : ∀ {W : Store} {P : Bool → Prop}, P ((atS st c).isSome) → wCmp .In (.int c) (stD st) W P := fun {W P} q => V_inD (k := .inl c) rfl (by rw [hasK_st]; exact q)
  refine if_C (fun c1 => ?_) fun c1 => ?_
  · walk_at "M.w"
    refine hin ?_
    cases ha : atS st c with
    | none =>
      simp only [Option.isSome_none]
      walk_at "M.w"
      refine if_F (by have := of_decide_eq_true c1; exact decide_eq_false (by omega)) ?_
      exact last
    | some i =>
      simp only [Option.isSome_some]
      walk_at "M.w"
      refine V_ixD (k := .inl c) (d := itD i) rfl (by rw [atK_st, ha]; rfl) ?_
      walk_at "M.w"
      exact g2.fin g0 (low_de (.put i)) (hF (.put i) S2 (by simp [putsOf]; exact hs.2.2 i (atS_some ha).1) g2)
  · walk_at "M.w"
    refine if_C (fun c2 => ?_) fun c2 => ?_
    · walk_at "M.w"
      refine hin ?_
      cases ha : atS st c with
      | none =>
        simp only [Option.isSome_none]
        walk_at "M.w"
      | some i =>
        simp only [Option.isSome_some]
        walk_at "M.w"
        intro v S3 hv g3
        walk_at "M.w"
        refine V_ixD (k := .inl c) (d := itD i) rfl (by rw [atK_st, ha]; rfl) ?_
        walk_at "M.w"
        have io := hs.2.2 i (atS_some ha).1
        exact g3.fin g0 (low_de (.put ⟨c, v, i.ls⟩)) (hF (.put ⟨c, v, i.ls⟩) S3 (by simp [putsOf]; exact ⟨hv.1, hv.2, io.2.2.1, io.2.2.2.1, cb⟩) g3)
    · walk_at "M.w"
local macro_rules | `(tactic| walk_at "M.x") => `(tactic| ((with_reducible refine' u_x_deed ?h0 ?h1 ?h2 ?h3 ?h4 ?h5 ?k); (case' h0 => try first | with_reducible assumption | omega | (exact ⟨by omega, by omega⟩)); (case' h1 => try first | with_reducible assumption | omega | (exact ⟨by omega, by omega⟩)); (case' h2 => try first | with_reducible assumption | omega | (exact ⟨by omega, by omega⟩)); (case' h3 => try first | with_reducible assumption | omega | (exact ⟨by omega, by omega⟩)); (case' h4 => try first | with_reducible assumption | omega | (exact ⟨by omega, by omega⟩)); (case' h5 => try first | with_reducible assumption | omega | (exact ⟨by omega, by omega⟩))))
theorem at_new {S : Store} {c : Cell} : (S ++ [c])[S.length]? = some c := by simp
theorem fin_new {S : Store} {F : Post} {c : Cell} (hc : lowC (S.length + 1) c) (hF : F (.ref S.length) (S ++ [c])) : Fin S F (.ref S.length) (S ++ [c]) := by
  refine ⟨S.length + 1, .ref S.length, ⟨by omega, by simp, fun n hn => ?_⟩, .low (by show S.length < S.length + 1; omega), by rw [List.take_of_length_le (by simp)]; exact hF⟩
  by_cases e : n < S.length
  · exact .inl (List.getElem?_append_left e)
  · exact .inr ⟨c, by rw [show n = S.length by omega]; simp, hc⟩
theorem low_stC {k : Nat} {st : List Itm} : lowC k (stC st) := low_st (st := st)
def m_x_done : MSp := fun ds S F _ => ∃ st d, ds = [stD st, deD d] ∧ keysOK st ∧ st.length ≤ 1000 ∧ (F (stD (doneS st d)) S ∨ F (.ref S.length) (S ++ [stC (doneS st d)]))
theorem u_x_done {st : List Itm} {d : Deed} {S : Store} {F Y : Post} (hk : keysOK st) (hl : st.length ≤ 1000) (hF : F (stD (doneS st d)) S ∨ F (.ref S.length) (S ++ [stC (doneS st d)])) : m_x_done [stD st, deD d] S F Y := ⟨st, d, rfl, hk, hl, hF⟩
theorem h_x_done {fs : List MSp}  : Kp fs glD i_x_done n_x_done.length p_x_done.length m_x_done := by
  intro ds S0 F Y h _ _
  obtain ⟨st, d, rfl, hk, hl, hF⟩ := h
  have fin : Fin S0 F (.ref S0.length) (S0 ++ [stC (doneS st d)]) := by
    rcases hF with q | q
    · exact Fin.pure (.refD (lk := false) (Nat.le_refl _) (by simp) (Fzs.low (low_st (st := doneS st d)))) q
    · exact fin_new low_stC q
  have mid : wSs l_x_done_2 ⟨fs, glD, FX S0 Y, none⟩ (EndK S0 F) [some (stD st), some (deD d), some (.int d.key), some (.ref S0.length), none] (S0 ++ [.dct false [] []]) := by
    have kn : ∀ {j : Nat} {a : Itm}, st[j]? = some a → ∀ i ∈ st.take j, i.key ≠ a.key := fun {j a} ha i hi e => by
      have hj := (List.getElem?_eq_some_iff.mp ha).1
      have ha' := (List.getElem?_eq_some_iff.mp ha).2
      have q : (st.take (j + 1)).map Itm.key = (st.take j).map Itm.key ++ [a.key] := by rw [List.take_succ, ha]; simp
      have q2 : ((st.take (j + 1)).map Itm.key).Nodup := hk.sublist ((List.take_sublist _ _).map _)
      rw [q, List.nodup_append] at q2
      exact q2.2.2 i.key (List.mem_map_of_mem hi) a.key (by simp) e
    walk_at "M.w"
    rw [show (stK st).map keyD = st.map fun i => D.int i.key by simp [stK, keyD]]
    refine For_list (as := st) (inj := fun i => .int i.key) (fun j e S => S = S0 ++ [stC ((st.take j).filter fun i => decide (i.key ≠ d.key))] ∧ ∃ w, e = [some (stD st), some (deD d), some (.int d.key), some (.ref S0.length), w]) ⟨by simp, _, rfl⟩ (fun _ _ _ _ => trivial) ?_ ?_
    · rintro e S ⟨rfl, w, rfl⟩
      rw [List.take_length]
      cases d with
      | take c =>
        rw [show doneS st (.take c) = st.filter (fun i => decide (i.key ≠ (Deed.take c).key)) by simp [doneS, putsOf]] at fin
        simp only [deD] at *
        walk_at "M.w"
        refine if_F (by decide) ?_
        walk_at "M.w"
        exact fin
      | put i =>
        rw [show doneS st (.put i) = st.filter (fun j => decide (j.key ≠ (Deed.put i).key)) ++ [i] by simp [doneS, putsOf]] at fin
        have hn : atS (st.filter fun j => decide (j.key ≠ (Deed.put i).key)) i.key = none := atS_none fun j hj => of_decide_eq_true (List.mem_filter.mp hj).2
        obtain ⟨e1, e2⟩ := put_new hn
        simp only [deD] at *
        walk_at "M.w"
        refine if_T (by decide) ?_
        walk_at "M.w"
        refine V_setC (k := .inl i.key) at_new rfl (by rw [List.length_map]; have := List.length_filter_le (fun j : Itm => decide (j.key ≠ (Deed.put i).key)) st; have : sizeLine = 16777216 := rfl; omega) ?_
        rw [e1, e2]
        walk_at "M.w"
        rw [show (S0 ++ [stC (st.filter fun j => decide (j.key ≠ (Deed.put i).key))]).set S0.length (stC (st.filter (fun j => decide (j.key ≠ (Deed.put i).key)) ++ [i])) = S0 ++ [stC (st.filter (fun j => decide (j.key ≠ (Deed.put i).key)) ++ [i])] by simp]
        exact fin
    · rintro j a e S ha ⟨rfl, w, rfl⟩
      have am : a ∈ st := List.mem_of_getElem? ha
      have tk : st.take (j + 1) = st.take j ++ [a] := by rw [List.take_succ, ha]; rfl
      walk_at "M.w"
      refine if_C (fun c => ?_) fun c => ?_
      · walk_at "M.w"
        refine V_ixD (k := .inl a.key) (d := itD a) rfl (by rw [atK_st, atS_mem hk am]; rfl) ?_
        walk_at "M.w"
        have hn : atS ((st.take j).filter fun i => decide (i.key ≠ d.key)) a.key = none := atS_none fun i hi => kn ha i (List.mem_filter.mp hi).1
        obtain ⟨e1, e2⟩ := put_new hn
        refine V_setC (k := .inl a.key) at_new rfl (by rw [List.length_map]; have := List.length_filter_le (fun i : Itm => decide (i.key ≠ d.key)) (st.take j); have := List.length_take_le' j st; have : sizeLine = 16777216 := rfl; omega) ?_
        rw [e1, e2]
        walk_at "M.w"
        refine ⟨?_, _, rfl⟩
        rw [tk, List.filter_append, List.filter_cons_of_pos (by simpa using c)]
        simp
      · walk_at "M.w"
        refine ⟨?_, _, rfl⟩
        rw [tk, List.filter_append, List.filter_cons_of_neg (by simpa using c)]
        simp
  cases d with
  | take c =>
    simp only [deD, Deed.key] at *
    simp only [startD, List.map_cons, List.map_nil, List.length_cons, List.length_nil, List.cons_append, List.nil_append, Nat.reduceAdd, Nat.reduceSub, List.replicate]
    walk_at "M.w"
    refine if_F (by decide) ?_
    walk_at "M.w"
  | put i =>
    simp only [deD, Deed.key] at *
    simp only [startD, List.map_cons, List.map_nil, List.length_cons, List.length_nil, List.cons_append, List.nil_append, Nat.reduceAdd, Nat.reduceSub, List.replicate]
    walk_at "M.w"
    refine if_T (by decide) ?_
    walk_at "M.w"
local macro_rules | `(tactic| walk_at "M.x") => `(tactic| ((with_reducible refine' u_x_done ?h0 ?h1 ?k); (case' h0 => try first | with_reducible assumption | omega | (exact ⟨by omega, by omega⟩)); (case' h1 => try first | with_reducible assumption | omega | (exact ⟨by omega, by omega⟩))))
mutual
theorem eqv_me : ∀ {d : D}, pd d = true → PyData.eqv (toP d) (toP d) = true
  | .non, _ => rfl
  | .bl b, _ => by simp [toP, PyData.eqv]
  | .int i, _ => by simp [toP, PyData.eqv]
  | .str x, _ => by simp [toP, PyData.eqv]
  | .tup xs, h => by simp only [toP, PyData.eqv]; exact eqv_mes h
  | .lst xs, h => by simp only [toP, PyData.eqv]; exact eqv_mes h
  | .rol xs, h => by simp only [toP, PyData.eqv]; exact eqv_mes h
theorem eqv_mes : ∀ {ds : List D}, pds ds = true → PyData.eqvAll (toPs ds) (toPs ds) = true
  | [], _ => rfl
  | d :: r, h => by
    simp only [pds, Bool.and_eq_true] at h
    simp only [toPs, PyData.eqvAll, Bool.and_eq_true]
    exact ⟨eqv_me h.1, eqv_mes h.2⟩
end
theorem V_neSelf {n : Nat} {d : D} {S : Store} {k : Bool → Prop} (h : rd S d = d) (o : dp n d) (hn : n ≤ 60) (q : k false) : wCmp .NotEq d d S k :=
  V_neP h h o o (by rw [show eqd d d = true from eqv_me o.1]; exact q) hn hn
/-- pairs that can be shown -/
def PB (ps : List (Int × Int)) : Prop := ps.length ≤ 1000 ∧ ∀ p ∈ ps, p.1.natAbs < 2 ^ 100 ∧ p.2.natAbs < 2 ^ 100
theorem pr_shw {ps : List (Int × Int)} (h : PB ps) : shws (ps.map pr) = true := shws_map fun p hp => by
  obtain ⟨a, b⟩ := h.2 p hp
  show (shw (.int p.1) && (shw (.int p.2) && true)) = true
  rw [shw_int (Nat.lt_trans a (Nat.pow_lt_pow_right (by decide) (by decide))), shw_int (Nat.lt_trans b (Nat.pow_lt_pow_right (by decide) (by decide)))]; rfl
theorem pr_wid {ps : List (Int × Int)} (h : PB ps) : wids (ps.map pr) ≤ 5000000 := by
  have := wids_map (inj := pr) (b := 4007) (as := ps) fun p _ => Nat.le_refl _
  have := h.1
  omega
/-- what is shown, as sealed words -/
@[irreducible] def shP (ps : List (Int × Int)) : Str := (toP (.tup (ps.map pr))).shown
@[irreducible] def shN (as bs : List (Int × Int)) : Str := (toP (news as bs)).shown
theorem shP_is {ps : List (Int × Int)} : shP ps = (toP (.tup (ps.map pr))).shown := by unfold shP; rfl
theorem shN_is {as bs : List (Int × Int)} : shN as bs = (toP (news as bs)).shown := by unfold shN; rfl
theorem V_reprPs {ps : List (Int × Int)} {S : Store} {Q : Post} (h : PB ps) (q : Q (.str (shP ps)) S) : wBi .repr [.tup (ps.map pr)] S Q := by
  rw [shP_is] at q
  refine V_repr (dp_prT (ps := ps)).ok ?_ ?_ q
  · exact pr_shw h
  · have := pr_wid h
    show wids (ps.map pr) + 3 ≤ sizeLine
    have : sizeLine = 16777216 := rfl
    omega
theorem PB.filter {ps : List (Int × Int)} {f : Int × Int → Bool} (h : PB ps) : PB (ps.filter f) := ⟨Nat.le_trans (List.length_filter_le _ _) h.1, fun p hp => h.2 p (List.mem_filter.mp hp).1⟩
theorem V_reprNs {as bs : List (Int × Int)} {S : Store} {Q : Post} (h : PB as) (h2 : PB bs) (q : Q (.str (shN as bs)) S) : wBi .repr [news as bs] S Q := by
  rw [shN_is] at q
  have ha := h.filter (f := fun p => !decide (p ∈ bs))
  have hb := h2.filter (f := fun p => !decide (p ∈ as))
  refine V_repr (x := news as bs) (dp.ok (n := 4) (dp_tup fun x hx => ?_)) ?_ ?_ q
  · simp only [List.mem_cons, List.not_mem_nil, or_false] at hx
    rcases hx with rfl | rfl <;> exact dp_prT
  · show (shws _ && (shws _ && true)) = true
    rw [pr_shw ha, pr_shw hb]; rfl
  · have := pr_wid ha
    have := pr_wid hb
    show (wids _ + 3) + 2 + ((wids _ + 3) + 2 + 0) + 3 ≤ sizeLine
    have : sizeLine = 16777216 := rfl
    omega
theorem shP_ne {ps : List (Int × Int)} : (!decide (shP ps = shP ps)) = false := by simp
theorem shP_eq {ps : List (Int × Int)} : decide (shP ps = shP ps) = true := by simp
theorem shN_ne {as bs : List (Int × Int)} : (!decide (shN as bs = shN as bs)) = false := by simp
theorem PB_near {p : Nat} {k : Str} {v : List Int} {q : Int} {f : Fl} {st : List Itm} (hs : stOK p st) (hq : quOK p k v f) : PB (near k v q f st) := by
  refine ⟨by have := (near_len (k := k) (v := v) (q := q) (f := f) (st := st)).1; have := hs.2.1; omega, fun a ha => ?_⟩
  have h1 : a ∈ pairsOf k v f st := (List.mem_filter.mp ha).1
  have h2 : a ∈ (pass f st).map (prI k v) := srtP_perm.mem_iff.mp h1
  obtain ⟨i, hi, rfl⟩ := List.mem_map.mp h2
  have hi : i ∈ st := (List.mem_filter.mp hi).1
  have io := hs.2.2 i hi
  obtain ⟨d0, d1⟩ := dist_bd (k := k) hq.vb (io.vb hq.1.2)
  have := io.2.2.2.2
  simp only [prI]
  constructor
  · have : (1000 * 2 ^ 58 : Int) < 2 ^ 99 := by decide
    omega
  · omega
theorem V_eqSelf {n : Nat} {d : D} {S : Store} {k : Bool → Prop} (h : rd S d = d) (o : dp n d) (hn : n ≤ 60) (q : k true) : wCmp .Eq d d S k :=
  V_eqP h h o o (by rw [show eqd d d = true from eqv_me o.1]; exact q) hn hn

theorem stOK_done {p : Nat} {st : List Itm} {d : Deed} (h : stOK p st) (hl : st.length < 100) (hd : ∀ i ∈ putsOf d, itOK p i) : stOK p (doneS st d) := by
  refine ⟨keys_done h.1, ?_, fun i hi => ?_⟩
  · unfold doneS
    rw [List.length_append]
    have := List.length_filter_le (fun i : Itm => decide (i.key ≠ d.key)) st
    have : (putsOf d).length ≤ 1 := by cases d <;> simp [putsOf]
    omega
  · rcases List.mem_append.mp hi with q | q
    · exact h.2.2 i (List.mem_filter.mp q).1
    · exact hd i q
theorem done_len {st : List Itm} {d : Deed} : (doneS st d).length ≤ st.length + 1 := by
  unfold doneS
  rw [List.length_append]
  have := List.length_filter_le (fun i : Itm => decide (i.key ≠ d.key)) st
  have : (putsOf d).length ≤ 1 := by cases d <;> simp [putsOf]
  omega
theorem done_none {st : List Itm} {c : Int} (h : ∀ i ∈ st, i.key ≠ c) : doneS st (.take c) = st := by
  unfold doneS
  rw [show putsOf (.take c) = [] from rfl, List.append_nil]
  exact List.filter_eq_self.mpr fun i hi => decide_eq_true (h i hi)
section
variable {T S : Store} {a b c d : Cell}
theorem gc0 (g : GoodH (T ++ [a, b, c]) S) : S[T.length + 2]? = some a := by rw [g.at_]; simp
theorem gc1 (g : GoodH (T ++ [a, b, c]) S) : S[T.length + 3]? = some b := by rw [show T.length + 3 = (T.length + 1) + 2 by omega, g.at_]; simp
theorem gc2 (g : GoodH (T ++ [a, b, c]) S) : S[T.length + 4]? = some c := by rw [show T.length + 4 = (T.length + 2) + 2 by omega, g.at_]; simp
theorem gs0 (g : GoodH (T ++ [a, b, c]) S) : GoodH (T ++ [d, b, c]) (S.set (T.length + 2) d) := by
  have := g.set (n := T.length) (c := d)
  simpa using this
theorem gs1 (g : GoodH (T ++ [a, b, c]) S) : GoodH (T ++ [a, d, c]) (S.set (T.length + 3) d) := by
  have := g.set (n := T.length + 1) (c := d)
  simpa using this
end
def m_x_run : MSp := fun ds S F _ => ∃ T, ∃ ks : List Int, ∃ p t : Nat, ds = [.ref 1, .int (p : Nat), .lst (ks.map .int), .int (t : Nat)] ∧ (1 ≤ p ∧ p ≤ 8) ∧ ks.Nodup ∧ (0 < ks.length ∧ ks.length ≤ 50) ∧ (∀ c ∈ ks, 0 ≤ c ∧ c ≤ 1000) ∧ t ≤ 20 ∧ GoodH T S ∧ ∀ S', GoodH T S' → F (.bl true) S'
theorem u_x_run {T S : Store} {ks : List Int} {p t : Nat} {F Y : Post} (hp : 1 ≤ p ∧ p ≤ 8) (hn : ks.Nodup) (hl : 0 < ks.length ∧ ks.length ≤ 50) (hb : ∀ c ∈ ks, 0 ≤ c ∧ c ≤ 1000) (ht : t ≤ 20) (g : GoodH T S) (hF : ∀ S', GoodH T S' → F (.bl true) S') : m_x_run [.ref 1, .int (p : Nat), .lst (ks.map .int), .int (t : Nat)] S F Y := ⟨T, ks, p, t, rfl, hp, hn, hl, hb, ht, g, hF⟩
theorem h_x_run {fs : List MSp} (q_x_start : fs[K_x_start]? = some m_x_start) (q_x_question : fs[K_x_question]? = some m_x_question) (q_x_pick : fs[K_x_pick]? = some m_x_pick) (q_x_draw : fs[K_x_draw]? = some m_x_draw) (q_x_done : fs[K_x_done]? = some m_x_done) (q_Nearby___init__ : fs[K_Nearby___init__]? = some m_Nearby___init__) (q_x_due : fs[K_x_due]? = some m_x_due) (q_Nearby_kept : fs[K_Nearby_kept]? = some m_Nearby_kept) (q_x_deed : fs[K_x_deed]? = some m_x_deed) (q_Nearby_told : fs[K_Nearby_told]? = some m_Nearby_told) (q_x_news : fs[K_x_news]? = some m_x_news) : Kp fs glD i_x_run n_x_run.length p_x_run.length m_x_run := by
  intro ds S0 F Y h _ _
  obtain ⟨T, ks, p, t, rfl, hp, hn, ⟨kl, hl⟩, hb, ht, g0, hF⟩ := h
  have p8 := hp.2
  simp only [startD, List.map_cons, List.map_nil, List.length_cons, List.length_nil, List.cons_append, List.nil_append, Nat.reduceAdd, Nat.reduceSub, List.replicate]
  walk_at "M.w"
  intro st S1 hs hsl g1
  walk_at "M.w"
  intro k v n f S2 hq g2
  walk_at "M.w"
  intro r S3 r0 r1 g3
  walk_at "M.w"
  refine pick_I (lo := -1) (hi := 10 ^ 9) g3 (by simp) (by simp) (by
    intro d hd
    simp at hd
    rcases hd with rfl | rfl | rfl | rfl | rfl | rfl | rfl | rfl | rfl <;> exact ⟨_, rfl, by omega, by omega⟩) fun q S4 q0 q1 g4 => ?_
  walk_at "M.w"
  have ne1 : ∀ i ∈ st, i.key ≠ 0 - 1 := fun i hi => by have := (hs.2.2 i hi).2.2.2.2; omega
  refine u_x_done (d := .take (0 - 1)) hs.1 (by omega) (.inr ?_)
  rw [done_none ne1]
  have l4 := g4.len
  have g5 := g4.pushN (c := stC st)
  have vs := hs.vecs hp.2
  have vb := hq.vb
  have fd : f.dep ≤ 3 := hq.2.2.2.2.1
  walk_at "M.w"
  refine u_Nearby___init__ at_new (.inr ⟨S4.length, false, rfl, by rw [List.getElem?_append_left (by simp), at_new]⟩) fd hs.1 vs vb ?_
  refine ⟨rfl, ?_⟩
  rw [List.set_append_right _ _ (Nat.le_refl _), Nat.sub_self, List.set_cons_zero]
  have g6 := g5.pushN (c := NbC k v q f (near k v q f st))
  generalize S4 ++ [stC st] ++ [NbC k v q f (near k v q f st)] = S6 at *
  have l6 := g6.len
  simp only [List.length_append, List.length_cons, List.length_nil] at l6
  rw [show (S4 ++ [stC st]).length = T.length + 3 by simp; omega, show S4.length = T.length + 2 by omega]
  clear g5 g4 l4
  walk_at "M.w"
  refine u_Nearby___init__ at_new (.inl rfl) fd hs.1 vs vb ?_
  refine ⟨rfl, ?_⟩
  rw [List.set_append_right _ _ (Nat.le_refl _), Nat.sub_self, List.set_cons_zero]
  have g7 := g6.pushN (c := NbC k v q f (near k v q f st))
  generalize S6 ++ [NbC k v q f (near k v q f st)] = S7 at *
  rw [show T ++ [stC st] ++ [NbC k v q f (near k v q f st)] ++ [NbC k v q f (near k v q f st)] = T ++ [stC st, NbC k v q f (near k v q f st), NbC k v q f (near k v q f st)] by simp] at g7
  have l7 := g7.len
  simp only [List.length_append, List.length_cons, List.length_nil] at l7
  rw [show S6.length = T.length + 4 by omega]
  clear g6 l6
  have pn := PB_near (q := q) hs hq
  walk_at "M.w"
  refine V_setC (gc0 g7) (k := .inl 77) rfl (by rw [List.length_map]; have := hs.2.1; have : sizeLine = 16777216 := rfl; omega) ?_
  have g8 := gs0 (d := .dct false (putKs (stK st) (.inl 77)) (putDs (stK st) (stV st) (.inl 77) (.tup [.int 77, vec v, .tup []]))) g7
  generalize List.set S7 _ _ = S8 at *
  generalize Cell.dct false (putKs (stK st) (.inl 77)) _ = P8 at *
  refine Ss_at ?_
  walk_at "M.w"
  refine V_reprPs pn ?_
  walk_at "M.w"
  have qdp : dp 12 (.tup [.str k, vec v, .int q, flD f]) := dp_tup fun x hx => by
    simp only [List.mem_cons, List.not_mem_nil, or_false] at hx
    rcases hx with rfl | rfl | rfl | rfl
    · refine dp_up (dp_str ?_) (by decide)
      rcases hq.2.1 with rfl | rfl | rfl | rfl <;> decide +kernel
    · exact dp_up dp_vec (by decide)
    · exact dp_up dp_int (by decide)
    · exact dp_up hq.2.2.2.2.2 (by decide)
  refine wFor.rng (fun i e S => ∃ st' w16 w17 w18, stOK p st' ∧ st'.length ≤ 50 + i ∧ GoodH (T ++ [P8, NbC k v q f (near k v q f st'), NbC k v q f (near k v q f st)]) S ∧ e = [some (.ref 1), some (.int (p : Nat)), some (.lst (ks.map .int)), some (.int (t : Nat)), some (stD st'),
      some (quD k v n f), some (.str k), some (vec v), some (.int n), some (flD f), some (.int q), some (.ref (T.length + 2)), some (.ref (T.length + 3)), some (.ref (T.length + 4)),
      some (.tup ((near k v q f st').map pr)), some (.str (shP (near k v q f st))), w16, w17, w18]) ⟨st, _, _, _, hs, by omega, g8, rfl⟩ ?_ ?_
  · rintro e S ⟨st', w16, w17, w18, hs', hl', g, rfl⟩
    have pn' := PB_near (q := q) hs' hq
    have c1 := gc1 g
    have c2 := gc2 g
    walk_at "M.w"
    refine V_reprPs pn' ?_
    walk_at "M.w"
    refine V_reprPs pn' ?_
    walk_at "M.w"
    refine if_T shP_eq ?_
    walk_at "M.w"
    refine V_reprPs pn ?_
    walk_at "M.w"
    rw [shP_eq]
    exact g.finZ g0 (.low trivial) fun S' g' => hF S' g'
  · rintro i e S hi ⟨st', w16, w17, w18, hs', hl', g, rfl⟩
    have pn' := PB_near (q := q) hs' hq
    have c1 := gc1 g
    walk_at "M.w"
    refine V_reprPs pn' ?_
    walk_at "M.w"
    refine V_reprPs pn' ?_
    walk_at "M.w"
    refine if_F shP_ne ?_
    walk_at "M.w"
    refine V_neSelf rfl qdp (by decide) ?_
    walk_at "M.w"
    have kb : (k, v) = (k, v) := rfl
    intro d S' hd g'
    have c1' := gc1 g'
    have do' : deedOK d := fun i hi => (hd i hi).vb p8
    have st2 := stOK_done (d := d) hs' (by omega) hd
    have sl2 := done_len (st := st') (d := d)
    have sl3 := hs'.2.1
    have hk' := hs'.1
    have nl' : (near k v q f st').length ≤ 5000 := by have := pn'.1; omega
    walk_at "M.w"
    refine .inl ?_
    walk_at "M.w"
    have pn2 := PB_near (q := q) st2 hq
    refine u_Nearby_told c1' fd vb do' nl' ?_
    rw [show toldP k v q f (near k v q f st') d = near k v q f (doneS st' d) from told_math]
    have g2 := gs1 (d := NbC k v q f (near k v q f (doneS st' d))) g'
    generalize List.set S' _ _ = S9 at *
    walk_at "M.w"
    refine V_reprNs pn' pn2 ?_
    have x1 : (near k v q f st').length ≤ 10000 := by omega
    have x2 : (near k v q f (doneS st' d)).length ≤ 10000 := by have := pn2.1; omega
    walk_at "M.w"
    refine V_reprNs pn' pn2 ?_
    walk_at "M.w"
    refine if_F shN_ne ?_
    walk_at "M.w"
    exact ⟨doneS st' d, _, _, _, st2, by omega, g2, rfl⟩
local macro_rules | `(tactic| walk_at "M.x") => `(tactic| ((with_reducible refine' u_x_run ?h0 ?h1 ?h2 ?h3 ?h4 ?h5 ?k); (case' h0 => try first | with_reducible assumption | omega | (exact ⟨by omega, by omega⟩)); (case' h1 => try first | with_reducible assumption | omega | (exact ⟨by omega, by omega⟩)); (case' h2 => try first | with_reducible assumption | omega | (exact ⟨by omega, by omega⟩)); (case' h3 => try first | with_reducible assumption | omega | (exact ⟨by omega, by omega⟩)); (case' h4 => try first | with_reducible assumption | omega | (exact ⟨by omega, by omega⟩)); (case' h5 => try first | with_reducible assumption | omega | (exact ⟨by omega, by omega⟩))))
def m_law : MSp := fun ds S F _ => ∃ ns : List Int, ds = [.rol (ns.map .int)] ∧ S = [] ∧ ns.length ≤ 63 ∧ ∀ S', F (.bl true) S'
theorem h_law {fs : List MSp} (q_x_heap : fs[K_x_heap]? = some m_x_heap) (q_x_draw : fs[K_x_draw]? = some m_x_draw) (q_x_run : fs[K_x_run]? = some m_x_run) (q_x_pick : fs[K_x_pick]? = some m_x_pick) (q_Nearby___init__ : fs[K_Nearby___init__]? = some m_Nearby___init__) (q_Nearby_told : fs[K_Nearby_told]? = some m_Nearby_told) (q_Nearby_kept : fs[K_Nearby_kept]? = some m_Nearby_kept) : Kp fs glD i_law n_law.length p_law.length m_law := by
  intro ds S0 F Y h _ _
  obtain ⟨ns, rfl, rfl, hn, hF⟩ := h
  simp only [startD, List.map_cons, List.map_nil, List.length_cons, List.length_nil, List.cons_append, List.nil_append, Nat.reduceAdd, Nat.reduceSub, List.replicate]
  walk_at "M.w"
  intro S1 g1
  walk_at "M.w"
  obtain ⟨m, em, hm⟩ : ∃ m : Nat, (2 + 2 * if decide ((1 : Int) < ns.length) = true then (1 : Int) else 0) = (m : Nat) ∧ m ≤ 4 := by
    split
    · exact ⟨4, rfl, by omega⟩
    · exact ⟨2, rfl, by omega⟩
  rw [em]
  walk_at "M.w"
  refine wFor.rng (fun i e S => ∃ w2 w3 w4 w5, GoodH [] S ∧ e = [some (.rol (ns.map .int)), some (.ref 1), w2, w3, w4, w5]) ⟨_, _, _, _, g1, rfl⟩ ?_ ?_
  · rintro e S ⟨w2, w3, w4, w5, g, rfl⟩
    walk_at "M.w"
    refine u_Nearby___init__ (st := []) (v := [0, 0]) (f := .not (.has "a")) at_new (.inl rfl) (by decide) (by simp [keysOK]) ⟨by simp, by simp⟩ ⟨by simp, by simp⟩ ?_
    refine ⟨rfl, ?_⟩
    rw [List.set_append_right _ _ (Nat.le_refl _), Nat.sub_self, List.set_cons_zero]
    rw [show near "square" [0, 0] 25 (.not (.has "a")) [] = [] from by decide +kernel]
    have g1 := g.pushN (c := NbC "square" [0, 0] 25 (.not (.has "a")) [])
    rw [g.len]
    generalize S ++ [NbC "square" [0, 0] 25 (.not (.has "a")) []] = S1 at *
    have c1 := g1.cell (U := [])
    have ok : ∀ a b c : Int, ∀ ls, a.natAbs ≤ 20 → b.natAbs ≤ 20 → deedOK (.put ⟨c, [a, b], ls⟩) := fun a b c ls ha hb i hi => by
      simp [putsOf] at hi
      subst hi
      exact ⟨by simp, by simp; omega⟩
    have vb : VB [0, 0] := ⟨by simp, by simp⟩
    walk_at "M.w"
    refine V_neT0 ?_
    walk_at "M.w"
    have step : ∀ {S : Store} {ps qs : List (Int × Int)} {d : Deed} {F Y : Post}, GoodH [NbC "square" [0, 0] 25 (.not (.has "a")) ps] S → deedOK d → ps.length ≤ 5000 → toldP "square" [0, 0] 25 (.not (.has "a")) ps d = qs →
        (∀ S', GoodH [NbC "square" [0, 0] 25 (.not (.has "a")) qs] S' → F (news ps qs) S') → m_Nearby_told [.ref 2, deD d] S F Y := fun {S ps qs d F Y} g hd hl e hF => by
      have := g.cell (T := []) (U := [])
      refine u_Nearby_told this (by decide) vb hd hl ?_
      rw [e]
      exact hF _ (g.setc (T := []) (U := []))
    refine if_F rfl ?_
    walk_at "M.w"
    refine step (d := .put ⟨4, [3, 4], []⟩) (qs := [(25, 4)]) g1 (ok _ _ _ _ (by decide) (by decide)) (by simp) (by decide +kernel) fun S2 g2 => ?_
    have c2 := g2.cell (T := []) (U := [])
    rw [show news [] [(25, 4)] = .tup [.tup [], .tup [.tup [.int 25, .int 4]]] from rfl]
    walk_at "M.w"
    refine V_neSelf (n := 10) rfl ⟨by decide +kernel, by decide +kernel⟩ (by decide) ?_
    walk_at "M.w"
    refine step (d := .put ⟨5, [3, 5], []⟩) (qs := [(25, 4)]) g2 (ok _ _ _ _ (by decide) (by decide)) (by simp) (by decide +kernel) fun S3 g3 => ?_
    have c3 := g3.cell (T := []) (U := [])
    rw [show news [(25, 4)] [(25, 4)] = .tup [.tup [], .tup []] from rfl]
    walk_at "M.w"
    refine V_neSelf (n := 10) rfl ⟨by decide +kernel, by decide +kernel⟩ (by decide) ?_
    walk_at "M.w"
    refine step (d := .put ⟨4, [3, 4], [("a", 0)]⟩) (qs := []) g3 (ok _ _ _ _ (by decide) (by decide)) (by simp) (by decide +kernel) fun S4 g4 => ?_
    have c4 := g4.cell (T := []) (U := [])
    rw [show news [(25, 4)] [] = .tup [.tup [.tup [.int 25, .int 4]], .tup []] from rfl]
    walk_at "M.w"
    refine V_neSelf (n := 10) rfl ⟨by decide +kernel, by decide +kernel⟩ (by decide) ?_
    walk_at "M.w"
    refine step (d := .take 4) (qs := []) g4 (by intro i hi; simp [putsOf] at hi) (by simp) (by decide +kernel) fun S5 g5 => ?_
    have c5 := g5.cell (T := []) (U := [])
    rw [show news [] [] = .tup [.tup [], .tup []] from rfl]
    walk_at "M.w"
    refine V_neSelf (n := 10) rfl ⟨by decide +kernel, by decide +kernel⟩ (by decide) ?_
    walk_at "M.w"
    refine step (d := .put ⟨6, [0, 0 - 5], []⟩) (qs := [(25, 6)]) g5 (ok _ _ _ _ (by decide) (by decide)) (by simp) (by decide +kernel) fun S6 g6 => ?_
    have c6 := g6.cell (T := []) (U := [])
    rw [show news [] [(25, 6)] = .tup [.tup [], .tup [.tup [.int 25, .int 6]]] from rfl]
    walk_at "M.w"
    refine V_eqSelf (n := 10) rfl ⟨by decide +kernel, by decide +kernel⟩ (by decide) ?_
    walk_at "M.w"
    refine step (d := .put ⟨6, [1, 0], []⟩) (qs := [(1, 6)]) g6 (ok _ _ _ _ (by decide) (by decide)) (by simp) (by decide +kernel) fun S7 g7 => ?_
    have c7 := g7.cell (T := []) (U := [])
    rw [show news [(25, 6)] [(1, 6)] = .tup [.tup [.tup [.int 25, .int 6]], .tup [.tup [.int 1, .int 6]]] from rfl]
    walk_at "M.w"
    refine V_eqSelf (n := 10) rfl ⟨by decide +kernel, by decide +kernel⟩ (by decide) ?_
    walk_at "M.w"
    exact ⟨0, _, ⟨Nat.zero_le _, Nat.zero_le _, fun n hn => by omega⟩, .low trivial, hF _⟩
  · rintro i e S hi ⟨w2, w3, w4, w5, g, rfl⟩
    walk_at "M.w"
    intro r S2 r0 r1 g2
    walk_at "M.w"
    obtain ⟨n, rfl⟩ : ∃ m : Nat, r = m := ⟨r.toNat, by omega⟩
    rw [show ((3 : Int) + (n : Nat)).toNat = n + 3 by omega, rng_map]
    refine Lc_inv (as := List.range (n + 3)) (inj := fun i => .int (i : Nat)) (fun i acc S => GoodH [] S ∧ ∃ l : List Int, acc = l.map .int ∧ l.length = i ∧ l.Nodup ∧ ∀ c ∈ l, 0 ≤ c ∧ c < 3 * i) (by rw [List.length_range]; omega) ⟨g2, [], rfl, rfl, by simp, by simp⟩ (fun _ _ _ _ => trivial) ?_ ?_
    · rintro acc S3 ⟨g3, l, rfl, hl, hnd, hb⟩
      rw [List.length_range] at hl hb
      walk_at "M.w"
      refine pick_I (lo := 1) (hi := 8) g3 (by simp) (by simp) (by
        intro d hd
        simp at hd
        rcases hd with rfl | rfl | rfl | rfl | rfl <;> exact ⟨_, rfl, by omega, by omega⟩) fun c S4 c0 c1 g4 => ?_
      walk_at "M.w"
      intro r' S5 s0 s1 g5
      walk_at "M.w"
      obtain ⟨pp, rfl⟩ : ∃ m : Nat, c = m := ⟨c.toNat, by omega⟩
      obtain ⟨tt, et⟩ : ∃ m : Nat, 6 + r' = m := ⟨(6 + r').toNat, by omega⟩
      rw [et]
      refine u_x_run (by omega) hnd (by omega) (fun c hc => by have := hb c hc; omega) (by omega) g5 fun S6 g6 => ?_
      walk_at "M.w"
      exact ⟨_, _, _, _, g6, rfl⟩
    · rintro j a acc S3 ha ⟨g3, l, rfl, hl, hnd, hb⟩
      have ja : a = j := by
        rw [List.getElem?_range (by simpa using (List.getElem?_eq_some_iff.mp ha).1)] at ha
        cases ha; rfl
      subst ja
      walk_at "M.w"
      intro z S4 z0 z1 g4
      walk_at "M.w"
      refine ⟨g4, l ++ [3 * a + z], by simp, by simp [hl], ?_, fun c hc => ?_⟩
      · rw [List.nodup_append]
        exact ⟨hnd, by simp, fun x hx y hy => by simp at hy; have := hb x hx; omega⟩
      · rcases List.mem_append.mp hc with q | q
        · have := hb c q; omega
        · simp at q; omega
theorem top : ∀ ns : List Int, ns.length ≤ 63 → (∀ z ∈ ns, Builtin.Int.intBits z ≤ 1048576) → m_law [.rol (ns.map .int)] [] (fun d _ => d = .bl true) fun _ _ => False :=
  fun ns hn _ => ⟨ns, rfl, rfl, hn, fun _ => rfl⟩

end K77

namespace K77
open PySem L2 M
section
variable {K : PySem.W.Frag} {mg : Str → Option Value} {P : Program} {w : World} {base h : Heap} {a0 a1 a2 a3 a4 a5 a6 a7 a8 a9 a10 a11 a12 a13 a14 a15 a16 a17 a18 a19 a20 a21 a22 a23 a24 a25 a26 a27 a28 a29 a30 a31 a32 a33 D14 D15 D16 E0 : Addr}
theorem tabs (X : K.In h) (G : h.Ns mainGlobals mg) (F0 : FnAt K "differences" s_differences a0) (F1 : FnAt K "part_of" s_part_of a1) (F2 : FnAt K "joined_parts" s_joined_parts a2) (F3 : FnAt K "distance" s_distance a3) (F4 : FnAt K "is_within" s_is_within a4) (F5 : FnAt K "label_in" s_label_in a5) (F6 : FnAt K "lets_by" s_lets_by a6) (F7 : FnAt K "passes" s_passes a7) (F8 : FnAt K "deed_key" s_deed_key a8) (F9 : FnAt K "passing_keys" s_passing_keys a9) (F10 : FnAt K "pairs_from" s_pairs_from a10) (F11 : FnAt K "within" s_within a11) (F12 : FnAt K "put_pair" s_put_pair a12) (F13 : FnAt K "news_of" s_news_of a13) (F14 : MtAt K "Nearby" "__init__" "Nearby.__init__" s_Nearby___init__ D14 a14) (F15 : MtAt K "Nearby" "kept" "Nearby.kept" s_Nearby_kept D15 a15) (F16 : MtAt K "Nearby" "told" "Nearby.told" s_Nearby_told D16 a16) (F17 : FnAt K "_law_heap" s_x_heap a17) (F18 : FnAt K "_law_draw" s_x_draw a18) (F19 : FnAt K "_law_pick" s_x_pick a19) (F20 : FnAt K "_law_far" s_x_far a20) (F21 : FnAt K "_law_passes" s_x_passes a21) (F22 : FnAt K "_law_pairs" s_x_pairs a22) (F23 : FnAt K "_law_sieve" s_x_sieve a23) (F24 : FnAt K "_law_vector" s_x_vector a24) (F25 : FnAt K "_law_item" s_x_item a25) (F26 : FnAt K "_law_question" s_x_question a26) (F27 : FnAt K "_law_start" s_x_start a27) (F28 : FnAt K "_law_deed" s_x_deed a28) (F29 : FnAt K "_law_done" s_x_done a29) (F30 : FnAt K "_law_news" s_x_news a30) (F31 : FnAt K "_law_due" s_x_due a31) (F32 : FnAt K "_law_run" s_x_run a32) (F33 : FnAt K "law" s_law a33)  (z0 : PySem.W.nsIn K mainGlobals "tuple" = some none) (z1 : PySem.W.nsIn K mainGlobals "zip" = some none) (z2 : PySem.W.nsIn K mainGlobals "abs" = some none) (z3 : PySem.W.nsIn K mainGlobals "max" = some none) (z4 : PySem.W.nsIn K mainGlobals "sum" = some none) (z5 : PySem.W.nsIn K mainGlobals "all" = some none) (z6 : PySem.W.nsIn K mainGlobals "any" = some none) (z7 : PySem.W.nsIn K mainGlobals "sorted" = some none) (z8 : PySem.W.nsIn K mainGlobals "int" = some none) (z9 : PySem.W.nsIn K mainGlobals "len" = some none) (z10 : PySem.W.nsIn K mainGlobals "list" = some none) (z11 : PySem.W.nsIn K mainGlobals "range" = some none) (z12 : PySem.W.nsIn K mainGlobals "repr" = some none)    (e0 : ClK K "Nearby" ["kind", "vector", "reach", "sieve", "all_pairs"] E0)  : Tab ⟨K, mg⟩ (ck 33 n_law) P w base 44 [m_differences, m_part_of, m_joined_parts, m_distance, m_is_within, m_label_in, (m_lets_by 4), m_passes, m_deed_key, m_passing_keys, m_pairs_from, (bor m_within), m_put_pair, m_news_of, m_Nearby___init__, m_Nearby_kept, m_Nearby_told, m_x_heap, m_x_draw, m_x_pick, m_x_far, (m_x_passes 4), m_x_pairs, m_x_sieve, m_x_vector, m_x_item, m_x_question, m_x_start, m_x_deed, m_x_done, m_x_news, m_x_due, m_x_run] glD := by
  have q0 : Tab ⟨K, mg⟩ (ck 0 n_differences) P w base 0 [] glD := by
    refine tab_nil X G rfl (fun k x hk => ?_) (fun x hx => ?_) (fun p hp => ?_) (fun p hp => ?_) (fun p hp => ?_) (fun p hp => ?_) fun p hp => ?_
    · match k, hk with
      | n + 0, hk => cases hk
    · change x ∈ btN at hx; simp only [btN, List.mem_cons, List.not_mem_nil, or_false] at hx
      rcases hx with rfl | rfl | rfl | rfl | rfl | rfl | rfl | rfl | rfl | rfl | rfl | rfl | rfl <;> assumption
    · change p ∈ imN at hp; simp only [imN, List.mem_cons, List.not_mem_nil, or_false] at hp
    · change p ∈ ecN at hp; simp only [ecN, List.mem_cons, List.not_mem_nil, or_false] at hp
    · change p ∈ exN at hp; simp only [exN, List.mem_cons, List.not_mem_nil, or_false] at hp
    · change p ∈ kdN at hp; simp only [kdN, List.mem_cons, List.not_mem_nil, or_false] at hp
    · change p ∈ clN at hp; simp only [clN, List.mem_cons, List.not_mem_nil, or_false] at hp
      rcases hp with rfl
      · exact cl_of X G e0
  have q1 : Tab ⟨K, mg⟩ (ck 1 n_part_of) P w base 1 [m_differences] glD := q0.add (cal_of X G F0 f_differences c_differences b_differences q0 (h_differences )) rfl rfl rfl rfl rfl rfl rfl rfl
  have q2 : Tab ⟨K, mg⟩ (ck 2 n_joined_parts) P w base 2 [m_differences, m_part_of] glD := q1.add (cal_of X G F1 f_part_of c_part_of b_part_of q1 (h_part_of )) rfl rfl rfl rfl rfl rfl rfl rfl
  have q3 : Tab ⟨K, mg⟩ (ck 3 n_distance) P w base 3 [m_differences, m_part_of, m_joined_parts] glD := q2.add (cal_of X G F2 f_joined_parts c_joined_parts b_joined_parts q2 (h_joined_parts )) rfl rfl rfl rfl rfl rfl rfl rfl
  have q4 : Tab ⟨K, mg⟩ (ck 4 n_is_within) P w base 4 [m_differences, m_part_of, m_joined_parts, m_distance] glD := q3.add (cal_of X G F3 f_distance c_distance b_distance q3 (h_distance rfl rfl rfl)) rfl rfl rfl rfl rfl rfl rfl rfl
  have q5 : Tab ⟨K, mg⟩ (ck 5 n_label_in) P w base 5 [m_differences, m_part_of, m_joined_parts, m_distance, m_is_within] glD := q4.add (cal_of X G F4 f_is_within c_is_within b_is_within q4 (h_is_within rfl rfl rfl)) rfl rfl rfl rfl rfl rfl rfl rfl
  have q6 : Tab ⟨K, mg⟩ (ck 6 n_lets_by) P w base 6 [m_differences, m_part_of, m_joined_parts, m_distance, m_is_within, m_label_in] glD := q5.add (cal_of X G F5 f_label_in c_label_in b_label_in q5 (h_label_in )) rfl rfl rfl rfl rfl rfl rfl rfl
  have q7 : Tab ⟨K, mg⟩ (ck 7 n_passes) P w base 11 [m_differences, m_part_of, m_joined_parts, m_distance, m_is_within, m_label_in, (m_lets_by 4)] glD := (q6.up (L' := 10) (by decide)).add (cal_rec (C' := ck 7 n_lets_by) X G F6 f_lets_by c_lets_by b_lets_by q6 rfl rfl rfl rfl rfl rfl rfl rfl no_lets_by (fun d => h_lets_by rfl rfl) rfl (by decide +kernel) 4) rfl rfl rfl rfl rfl rfl rfl rfl
  have q8 : Tab ⟨K, mg⟩ (ck 8 n_deed_key) P w base 12 [m_differences, m_part_of, m_joined_parts, m_distance, m_is_within, m_label_in, (m_lets_by 4), m_passes] glD := q7.add (cal_of X G F7 f_passes c_passes b_passes q7 (h_passes rfl)) rfl rfl rfl rfl rfl rfl rfl rfl
  have q9 : Tab ⟨K, mg⟩ (ck 9 n_passing_keys) P w base 13 [m_differences, m_part_of, m_joined_parts, m_distance, m_is_within, m_label_in, (m_lets_by 4), m_passes, m_deed_key] glD := q8.add (cal_of X G F8 f_deed_key c_deed_key b_deed_key q8 (h_deed_key )) rfl rfl rfl rfl rfl rfl rfl rfl
  have q10 : Tab ⟨K, mg⟩ (ck 10 n_pairs_from) P w base 14 [m_differences, m_part_of, m_joined_parts, m_distance, m_is_within, m_label_in, (m_lets_by 4), m_passes, m_deed_key, m_passing_keys] glD := q9.add (cal_of X G F9 f_passing_keys c_passing_keys b_passing_keys q9 (h_passing_keys rfl)) rfl rfl rfl rfl rfl rfl rfl rfl
  have q11 : Tab ⟨K, mg⟩ (ck 11 n_within) P w base 15 [m_differences, m_part_of, m_joined_parts, m_distance, m_is_within, m_label_in, (m_lets_by 4), m_passes, m_deed_key, m_passing_keys, m_pairs_from] glD := q10.add (cal_of X G F10 f_pairs_from c_pairs_from b_pairs_from q10 (h_pairs_from rfl rfl)) rfl rfl rfl rfl rfl rfl rfl rfl
  have q12 : Tab ⟨K, mg⟩ (ck 12 n_put_pair) P w base 16 [m_differences, m_part_of, m_joined_parts, m_distance, m_is_within, m_label_in, (m_lets_by 4), m_passes, m_deed_key, m_passing_keys, m_pairs_from, (bor m_within)] glD := q11.add (cal_of X G F11 f_within c_within b_within q11 (h_within rfl)).bor rfl rfl rfl rfl rfl rfl rfl rfl
  have q13 : Tab ⟨K, mg⟩ (ck 13 n_news_of) P w base 17 [m_differences, m_part_of, m_joined_parts, m_distance, m_is_within, m_label_in, (m_lets_by 4), m_passes, m_deed_key, m_passing_keys, m_pairs_from, (bor m_within), m_put_pair] glD := q12.add (cal_of X G F12 f_put_pair c_put_pair b_put_pair q12 (h_put_pair rfl rfl)) rfl rfl rfl rfl rfl rfl rfl rfl
  have q14 : Tab ⟨K, mg⟩ (ck 14 n_Nearby___init__) P w base 18 [m_differences, m_part_of, m_joined_parts, m_distance, m_is_within, m_label_in, (m_lets_by 4), m_passes, m_deed_key, m_passing_keys, m_pairs_from, (bor m_within), m_put_pair, m_news_of] glD := q13.add (cal_of X G F13 f_news_of c_news_of b_news_of q13 (h_news_of )) rfl rfl rfl rfl rfl rfl rfl rfl
  have q15 : Tab ⟨K, mg⟩ (ck 15 n_Nearby_kept) P w base 20 [m_differences, m_part_of, m_joined_parts, m_distance, m_is_within, m_label_in, (m_lets_by 4), m_passes, m_deed_key, m_passing_keys, m_pairs_from, (bor m_within), m_put_pair, m_news_of, m_Nearby___init__] glD := (q14.up (L' := 19) (by decide)).add (cal_ofM X G F14 f_Nearby___init__ c_Nearby___init__ b_Nearby___init__ q14 (h_Nearby___init__ rfl)) rfl rfl rfl rfl rfl rfl rfl rfl
  have q16 : Tab ⟨K, mg⟩ (ck 16 n_Nearby_told) P w base 22 [m_differences, m_part_of, m_joined_parts, m_distance, m_is_within, m_label_in, (m_lets_by 4), m_passes, m_deed_key, m_passing_keys, m_pairs_from, (bor m_within), m_put_pair, m_news_of, m_Nearby___init__, m_Nearby_kept] glD := (q15.up (L' := 21) (by decide)).add (cal_ofM X G F15 f_Nearby_kept c_Nearby_kept b_Nearby_kept q15 (h_Nearby_kept )) rfl rfl rfl rfl rfl rfl rfl rfl
  have q17 : Tab ⟨K, mg⟩ (ck 17 n_x_heap) P w base 24 [m_differences, m_part_of, m_joined_parts, m_distance, m_is_within, m_label_in, (m_lets_by 4), m_passes, m_deed_key, m_passing_keys, m_pairs_from, (bor m_within), m_put_pair, m_news_of, m_Nearby___init__, m_Nearby_kept, m_Nearby_told] glD := (q16.up (L' := 23) (by decide)).add (cal_ofM X G F16 f_Nearby_told c_Nearby_told b_Nearby_told q16 (h_Nearby_told rfl rfl rfl rfl)) rfl rfl rfl rfl rfl rfl rfl rfl
  have q18 : Tab ⟨K, mg⟩ (ck 18 n_x_draw) P w base 25 [m_differences, m_part_of, m_joined_parts, m_distance, m_is_within, m_label_in, (m_lets_by 4), m_passes, m_deed_key, m_passing_keys, m_pairs_from, (bor m_within), m_put_pair, m_news_of, m_Nearby___init__, m_Nearby_kept, m_Nearby_told, m_x_heap] glD := q17.add (cal_of X G F17 f_x_heap c_x_heap b_x_heap q17 (h_x_heap )) rfl rfl rfl rfl rfl rfl rfl rfl
  have q19 : Tab ⟨K, mg⟩ (ck 19 n_x_pick) P w base 26 [m_differences, m_part_of, m_joined_parts, m_distance, m_is_within, m_label_in, (m_lets_by 4), m_passes, m_deed_key, m_passing_keys, m_pairs_from, (bor m_within), m_put_pair, m_news_of, m_Nearby___init__, m_Nearby_kept, m_Nearby_told, m_x_heap, m_x_draw] glD := q18.add (cal_of X G F18 f_x_draw c_x_draw b_x_draw q18 (h_x_draw )) rfl rfl rfl rfl rfl rfl rfl rfl
  have q20 : Tab ⟨K, mg⟩ (ck 20 n_x_far) P w base 27 [m_differences, m_part_of, m_joined_parts, m_distance, m_is_within, m_label_in, (m_lets_by 4), m_passes, m_deed_key, m_passing_keys, m_pairs_from, (bor m_within), m_put_pair, m_news_of, m_Nearby___init__, m_Nearby_kept, m_Nearby_told, m_x_heap, m_x_draw, m_x_pick] glD := q19.add (cal_of X G F19 f_x_pick c_x_pick b_x_pick q19 (h_x_pick rfl)) rfl rfl rfl rfl rfl rfl rfl rfl
  have q21 : Tab ⟨K, mg⟩ (ck 21 n_x_passes) P w base 28 [m_differences, m_part_of, m_joined_parts, m_distance, m_is_within, m_label_in, (m_lets_by 4), m_passes, m_deed_key, m_passing_keys, m_pairs_from, (bor m_within), m_put_pair, m_news_of, m_Nearby___init__, m_Nearby_kept, m_Nearby_told, m_x_heap, m_x_draw, m_x_pick, m_x_far] glD := q20.add (cal_of X G F20 f_x_far c_x_far b_x_far q20 (h_x_far )) rfl rfl rfl rfl rfl rfl rfl rfl
  have q22 : Tab ⟨K, mg⟩ (ck 22 n_x_pairs) P w base 33 [m_differences, m_part_of, m_joined_parts, m_distance, m_is_within, m_label_in, (m_lets_by 4), m_passes, m_deed_key, m_passing_keys, m_pairs_from, (bor m_within), m_put_pair, m_news_of, m_Nearby___init__, m_Nearby_kept, m_Nearby_told, m_x_heap, m_x_draw, m_x_pick, m_x_far, (m_x_passes 4)] glD := (q21.up (L' := 32) (by decide)).add (cal_rec (C' := ck 22 n_x_passes) X G F21 f_x_passes c_x_passes b_x_passes q21 rfl rfl rfl rfl rfl rfl rfl rfl no_x_passes (fun d => h_x_passes rfl) rfl (by decide +kernel) 4) rfl rfl rfl rfl rfl rfl rfl rfl
  have q23 : Tab ⟨K, mg⟩ (ck 23 n_x_sieve) P w base 34 [m_differences, m_part_of, m_joined_parts, m_distance, m_is_within, m_label_in, (m_lets_by 4), m_passes, m_deed_key, m_passing_keys, m_pairs_from, (bor m_within), m_put_pair, m_news_of, m_Nearby___init__, m_Nearby_kept, m_Nearby_told, m_x_heap, m_x_draw, m_x_pick, m_x_far, (m_x_passes 4), m_x_pairs] glD := q22.add (cal_of X G F22 f_x_pairs c_x_pairs b_x_pairs q22 (h_x_pairs rfl rfl)) rfl rfl rfl rfl rfl rfl rfl rfl
  have q24 : Tab ⟨K, mg⟩ (ck 24 n_x_vector) P w base 35 [m_differences, m_part_of, m_joined_parts, m_distance, m_is_within, m_label_in, (m_lets_by 4), m_passes, m_deed_key, m_passing_keys, m_pairs_from, (bor m_within), m_put_pair, m_news_of, m_Nearby___init__, m_Nearby_kept, m_Nearby_told, m_x_heap, m_x_draw, m_x_pick, m_x_far, (m_x_passes 4), m_x_pairs, m_x_sieve] glD := q23.add (cal_of X G F23 f_x_sieve c_x_sieve b_x_sieve q23 (h_x_sieve rfl rfl)) rfl rfl rfl rfl rfl rfl rfl rfl
  have q25 : Tab ⟨K, mg⟩ (ck 25 n_x_item) P w base 36 [m_differences, m_part_of, m_joined_parts, m_distance, m_is_within, m_label_in, (m_lets_by 4), m_passes, m_deed_key, m_passing_keys, m_pairs_from, (bor m_within), m_put_pair, m_news_of, m_Nearby___init__, m_Nearby_kept, m_Nearby_told, m_x_heap, m_x_draw, m_x_pick, m_x_far, (m_x_passes 4), m_x_pairs, m_x_sieve, m_x_vector] glD := q24.add (cal_of X G F24 f_x_vector c_x_vector b_x_vector q24 (h_x_vector rfl rfl)) rfl rfl rfl rfl rfl rfl rfl rfl
  have q26 : Tab ⟨K, mg⟩ (ck 26 n_x_question) P w base 37 [m_differences, m_part_of, m_joined_parts, m_distance, m_is_within, m_label_in, (m_lets_by 4), m_passes, m_deed_key, m_passing_keys, m_pairs_from, (bor m_within), m_put_pair, m_news_of, m_Nearby___init__, m_Nearby_kept, m_Nearby_told, m_x_heap, m_x_draw, m_x_pick, m_x_far, (m_x_passes 4), m_x_pairs, m_x_sieve, m_x_vector, m_x_item] glD := q25.add (cal_of X G F25 f_x_item c_x_item b_x_item q25 (h_x_item rfl rfl)) rfl rfl rfl rfl rfl rfl rfl rfl
  have q27 : Tab ⟨K, mg⟩ (ck 27 n_x_start) P w base 38 [m_differences, m_part_of, m_joined_parts, m_distance, m_is_within, m_label_in, (m_lets_by 4), m_passes, m_deed_key, m_passing_keys, m_pairs_from, (bor m_within), m_put_pair, m_news_of, m_Nearby___init__, m_Nearby_kept, m_Nearby_told, m_x_heap, m_x_draw, m_x_pick, m_x_far, (m_x_passes 4), m_x_pairs, m_x_sieve, m_x_vector, m_x_item, m_x_question] glD := q26.add (cal_of X G F26 f_x_question c_x_question b_x_question q26 (h_x_question rfl rfl rfl rfl)) rfl rfl rfl rfl rfl rfl rfl rfl
  have q28 : Tab ⟨K, mg⟩ (ck 28 n_x_deed) P w base 39 [m_differences, m_part_of, m_joined_parts, m_distance, m_is_within, m_label_in, (m_lets_by 4), m_passes, m_deed_key, m_passing_keys, m_pairs_from, (bor m_within), m_put_pair, m_news_of, m_Nearby___init__, m_Nearby_kept, m_Nearby_told, m_x_heap, m_x_draw, m_x_pick, m_x_far, (m_x_passes 4), m_x_pairs, m_x_sieve, m_x_vector, m_x_item, m_x_question, m_x_start] glD := q27.add (cal_of X G F27 f_x_start c_x_start b_x_start q27 (h_x_start rfl rfl)) rfl rfl rfl rfl rfl rfl rfl rfl
  have q29 : Tab ⟨K, mg⟩ (ck 29 n_x_done) P w base 40 [m_differences, m_part_of, m_joined_parts, m_distance, m_is_within, m_label_in, (m_lets_by 4), m_passes, m_deed_key, m_passing_keys, m_pairs_from, (bor m_within), m_put_pair, m_news_of, m_Nearby___init__, m_Nearby_kept, m_Nearby_told, m_x_heap, m_x_draw, m_x_pick, m_x_far, (m_x_passes 4), m_x_pairs, m_x_sieve, m_x_vector, m_x_item, m_x_question, m_x_start, m_x_deed] glD := q28.add (cal_of X G F28 f_x_deed c_x_deed b_x_deed q28 (h_x_deed rfl rfl rfl rfl)) rfl rfl rfl rfl rfl rfl rfl rfl
  have q30 : Tab ⟨K, mg⟩ (ck 30 n_x_news) P w base 41 [m_differences, m_part_of, m_joined_parts, m_distance, m_is_within, m_label_in, (m_lets_by 4), m_passes, m_deed_key, m_passing_keys, m_pairs_from, (bor m_within), m_put_pair, m_news_of, m_Nearby___init__, m_Nearby_kept, m_Nearby_told, m_x_heap, m_x_draw, m_x_pick, m_x_far, (m_x_passes 4), m_x_pairs, m_x_sieve, m_x_vector, m_x_item, m_x_question, m_x_start, m_x_deed, m_x_done] glD := q29.add (cal_of X G F29 f_x_done c_x_done b_x_done q29 (h_x_done )) rfl rfl rfl rfl rfl rfl rfl rfl
  have q31 : Tab ⟨K, mg⟩ (ck 31 n_x_due) P w base 42 [m_differences, m_part_of, m_joined_parts, m_distance, m_is_within, m_label_in, (m_lets_by 4), m_passes, m_deed_key, m_passing_keys, m_pairs_from, (bor m_within), m_put_pair, m_news_of, m_Nearby___init__, m_Nearby_kept, m_Nearby_told, m_x_heap, m_x_draw, m_x_pick, m_x_far, (m_x_passes 4), m_x_pairs, m_x_sieve, m_x_vector, m_x_item, m_x_question, m_x_start, m_x_deed, m_x_done, m_x_news] glD := q30.add (cal_of X G F30 f_x_news c_x_news b_x_news q30 (h_x_news )) rfl rfl rfl rfl rfl rfl rfl rfl
  have q32 : Tab ⟨K, mg⟩ (ck 32 n_x_run) P w base 43 [m_differences, m_part_of, m_joined_parts, m_distance, m_is_within, m_label_in, (m_lets_by 4), m_passes, m_deed_key, m_passing_keys, m_pairs_from, (bor m_within), m_put_pair, m_news_of, m_Nearby___init__, m_Nearby_kept, m_Nearby_told, m_x_heap, m_x_draw, m_x_pick, m_x_far, (m_x_passes 4), m_x_pairs, m_x_sieve, m_x_vector, m_x_item, m_x_question, m_x_start, m_x_deed, m_x_done, m_x_news, m_x_due] glD := q31.add (cal_of X G F31 f_x_due c_x_due b_x_due q31 (h_x_due rfl)) rfl rfl rfl rfl rfl rfl rfl rfl
  have q33 : Tab ⟨K, mg⟩ (ck 33 n_law) P w base 44 [m_differences, m_part_of, m_joined_parts, m_distance, m_is_within, m_label_in, (m_lets_by 4), m_passes, m_deed_key, m_passing_keys, m_pairs_from, (bor m_within), m_put_pair, m_news_of, m_Nearby___init__, m_Nearby_kept, m_Nearby_told, m_x_heap, m_x_draw, m_x_pick, m_x_far, (m_x_passes 4), m_x_pairs, m_x_sieve, m_x_vector, m_x_item, m_x_question, m_x_start, m_x_deed, m_x_done, m_x_news, m_x_due, m_x_run] glD := q32.add (cal_of X G F32 f_x_run c_x_run b_x_run q32 (h_x_run rfl rfl rfl rfl rfl rfl rfl rfl rfl rfl rfl)) rfl rfl rfl rfl rfl rfl rfl rfl
  exact q33
theorem all_mk (X : K.In h) (G : h.Ns mainGlobals mg) {fa : Addr} (hfa : mg "law" = some (.ref fa)) (F0 : FnAt K "differences" s_differences a0) (F1 : FnAt K "part_of" s_part_of a1) (F2 : FnAt K "joined_parts" s_joined_parts a2) (F3 : FnAt K "distance" s_distance a3) (F4 : FnAt K "is_within" s_is_within a4) (F5 : FnAt K "label_in" s_label_in a5) (F6 : FnAt K "lets_by" s_lets_by a6) (F7 : FnAt K "passes" s_passes a7) (F8 : FnAt K "deed_key" s_deed_key a8) (F9 : FnAt K "passing_keys" s_passing_keys a9) (F10 : FnAt K "pairs_from" s_pairs_from a10) (F11 : FnAt K "within" s_within a11) (F12 : FnAt K "put_pair" s_put_pair a12) (F13 : FnAt K "news_of" s_news_of a13) (F14 : MtAt K "Nearby" "__init__" "Nearby.__init__" s_Nearby___init__ D14 a14) (F15 : MtAt K "Nearby" "kept" "Nearby.kept" s_Nearby_kept D15 a15) (F16 : MtAt K "Nearby" "told" "Nearby.told" s_Nearby_told D16 a16) (F17 : FnAt K "_law_heap" s_x_heap a17) (F18 : FnAt K "_law_draw" s_x_draw a18) (F19 : FnAt K "_law_pick" s_x_pick a19) (F20 : FnAt K "_law_far" s_x_far a20) (F21 : FnAt K "_law_passes" s_x_passes a21) (F22 : FnAt K "_law_pairs" s_x_pairs a22) (F23 : FnAt K "_law_sieve" s_x_sieve a23) (F24 : FnAt K "_law_vector" s_x_vector a24) (F25 : FnAt K "_law_item" s_x_item a25) (F26 : FnAt K "_law_question" s_x_question a26) (F27 : FnAt K "_law_start" s_x_start a27) (F28 : FnAt K "_law_deed" s_x_deed a28) (F29 : FnAt K "_law_done" s_x_done a29) (F30 : FnAt K "_law_news" s_x_news a30) (F31 : FnAt K "_law_due" s_x_due a31) (F32 : FnAt K "_law_run" s_x_run a32) (F33 : FnAt K "law" s_law a33)  (z0 : PySem.W.nsIn K mainGlobals "tuple" = some none) (z1 : PySem.W.nsIn K mainGlobals "zip" = some none) (z2 : PySem.W.nsIn K mainGlobals "abs" = some none) (z3 : PySem.W.nsIn K mainGlobals "max" = some none) (z4 : PySem.W.nsIn K mainGlobals "sum" = some none) (z5 : PySem.W.nsIn K mainGlobals "all" = some none) (z6 : PySem.W.nsIn K mainGlobals "any" = some none) (z7 : PySem.W.nsIn K mainGlobals "sorted" = some none) (z8 : PySem.W.nsIn K mainGlobals "int" = some none) (z9 : PySem.W.nsIn K mainGlobals "len" = some none) (z10 : PySem.W.nsIn K mainGlobals "list" = some none) (z11 : PySem.W.nsIn K mainGlobals "range" = some none) (z12 : PySem.W.nsIn K mainGlobals "repr" = some none)    (e0 : ClK K "Nearby" ["kind", "vector", "reach", "sieve", "all_pairs"] E0)  : ∃ fd : FuncData, (∀ (s : Shared) (u : Value), BindsTo s fd ⟨[u], []⟩ [("_law_script", u)]) ∧ ∀ base : Heap, K.In base → base.Ns mainGlobals mg → Fx P w K mg base 45 fa fd ["_law_script"] (LSp ⟨K, mg⟩ m_law) :=
  cal_law (pats := []) X G hfa F33 b_law fun base X1 G1 => ⟨i_law, ck 33 n_law, [m_differences, m_part_of, m_joined_parts, m_distance, m_is_within, m_label_in, (m_lets_by 4), m_passes, m_deed_key, m_passing_keys, m_pairs_from, (bor m_within), m_put_pair, m_news_of, m_Nearby___init__, m_Nearby_kept, m_Nearby_told, m_x_heap, m_x_draw, m_x_pick, m_x_far, (m_x_passes 4), m_x_pairs, m_x_sieve, m_x_vector, m_x_item, m_x_question, m_x_start, m_x_deed, m_x_done, m_x_news, m_x_due, m_x_run], glD, 44, by decide, f_law, c_law, tabs X1 G1 F0 F1 F2 F3 F4 F5 F6 F7 F8 F9 F10 F11 F12 F13 F14 F15 F16 F17 F18 F19 F20 F21 F22 F23 F24 F25 F26 F27 F28 F29 F30 F31 F32 F33 z0 z1 z2 z3 z4 z5 z6 z7 z8 z9 z10 z11 z12 e0, (h_law rfl rfl rfl rfl rfl rfl rfl)⟩
end
end K77
open PySem PySem.W PyProof.Rows in
set_option maxRecDepth 100000 in
set_option maxHeartbeats 0 in
theorem PySem.Challenge.cw_nonearer_k77_whole_everything_near_holds : PySem.Challenge.rw_nonearer_k77_whole_everything_near.Holds := by
  w_on; o_law; k_head; (case hw => w_witness2)
  k_fill
  refine M.walk_law (l := PySem.Challenge.rw_nonearer_k77_whole_everything_near) (n := 63) (L := 45) (x := "_law_script") (ms := K77.m_law) rfl (by decide) rfl ⟨rfl, by decide, by decide⟩ (fun w h Y => PySem.W.kIn_of Y) ?F K77.top
  case F =>
    intro w mg fa h KX G hmg
    refine' K77.all_mk KX G hmg (M.fn_at ?fa0 ?fl0 ?fc0 ?fk0 ?fe0 ?fb0 ?fs0) (M.fn_at ?fa1 ?fl1 ?fc1 ?fk1 ?fe1 ?fb1 ?fs1) (M.fn_at ?fa2 ?fl2 ?fc2 ?fk2 ?fe2 ?fb2 ?fs2) (M.fn_at ?fa3 ?fl3 ?fc3 ?fk3 ?fe3 ?fb3 ?fs3) (M.fn_at ?fa4 ?fl4 ?fc4 ?fk4 ?fe4 ?fb4 ?fs4) (M.fn_at ?fa5 ?fl5 ?fc5 ?fk5 ?fe5 ?fb5 ?fs5) (M.fn_at ?fa6 ?fl6 ?fc6 ?fk6 ?fe6 ?fb6 ?fs6) (M.fn_at ?fa7 ?fl7 ?fc7 ?fk7 ?fe7 ?fb7 ?fs7) (M.fn_at ?fa8 ?fl8 ?fc8 ?fk8 ?fe8 ?fb8 ?fs8) (M.fn_at ?fa9 ?fl9 ?fc9 ?fk9 ?fe9 ?fb9 ?fs9) (M.fn_at ?fa10 ?fl10 ?fc10 ?fk10 ?fe10 ?fb10 ?fs10) (M.fn_at ?fa11 ?fl11 ?fc11 ?fk11 ?fe11 ?fb11 ?fs11) (M.fn_at ?fa12 ?fl12 ?fc12 ?fk12 ?fe12 ?fb12 ?fs12) (M.fn_at ?fa13 ?fl13 ?fc13 ?fk13 ?fe13 ?fb13 ?fs13) (M.mt_at0 ?fm14_1 ?fm14_2 ?fm14_3 ?fm14_4 ?fm14_5 ?fm14_6 ?fm14_7 ?fm14_8 ?fm14_9 ?fm14_10 ?fm14_11 ?fe14 ?fb14 ?fs14) (M.mt_at1 ?fm15_1 ?fm15_2 ?fm15_3 ?fm15_4 ?fm15_5 ?fm15_6 ?fm15_7 ?fm15_8 ?fm15_9 ?fm15_10 ?fe15 ?fb15 ?fs15) (M.mt_at1 ?fm16_1 ?fm16_2 ?fm16_3 ?fm16_4 ?fm16_5 ?fm16_6 ?fm16_7 ?fm16_8 ?fm16_9 ?fm16_10 ?fe16 ?fb16 ?fs16) (M.fn_at ?fa17 ?fl17 ?fc17 ?fk17 ?fe17 ?fb17 ?fs17) (M.fn_at ?fa18 ?fl18 ?fc18 ?fk18 ?fe18 ?fb18 ?fs18) (M.fn_at ?fa19 ?fl19 ?fc19 ?fk19 ?fe19 ?fb19 ?fs19) (M.fn_at ?fa20 ?fl20 ?fc20 ?fk20 ?fe20 ?fb20 ?fs20) (M.fn_at ?fa21 ?fl21 ?fc21 ?fk21 ?fe21 ?fb21 ?fs21) (M.fn_at ?fa22 ?fl22 ?fc22 ?fk22 ?fe22 ?fb22 ?fs22) (M.fn_at ?fa23 ?fl23 ?fc23 ?fk23 ?fe23 ?fb23 ?fs23) (M.fn_at ?fa24 ?fl24 ?fc24 ?fk24 ?fe24 ?fb24 ?fs24) (M.fn_at ?fa25 ?fl25 ?fc25 ?fk25 ?fe25 ?fb25 ?fs25) (M.fn_at ?fa26 ?fl26 ?fc26 ?fk26 ?fe26 ?fb26 ?fs26) (M.fn_at ?fa27 ?fl27 ?fc27 ?fk27 ?fe27 ?fb27 ?fs27) (M.fn_at ?fa28 ?fl28 ?fc28 ?fk28 ?fe28 ?fb28 ?fs28) (M.fn_at ?fa29 ?fl29 ?fc29 ?fk29 ?fe29 ?fb29 ?fs29) (M.fn_at ?fa30 ?fl30 ?fc30 ?fk30 ?fe30 ?fb30 ?fs30) (M.fn_at ?fa31 ?fl31 ?fc31 ?fk31 ?fe31 ?fb31 ?fs31) (M.fn_at ?fa32 ?fl32 ?fc32 ?fk32 ?fe32 ?fb32 ?fs32) (M.fn_at ?fa33 ?fl33 ?fc33 ?fk33 ?fe33 ?fb33 ?fs33)  ?z0 ?z1 ?z2 ?z3 ?z4 ?z5 ?z6 ?z7 ?z8 ?z9 ?z10 ?z11 ?z12 (M.clk_at ?e0_1 ?e0_2 ?e0_3 ?e0_4 ?e0_5 ?e0_6)
    (case fa0 => k_is); (case fl0 => k_is); (case fc0 => k_is); (case fk0 => k_is); (case fe0 => kernel_rfl); (case fb0 => kernel_rfl); (case fs0 => kernel_rfl)
    (case fa1 => k_is); (case fl1 => k_is); (case fc1 => k_is); (case fk1 => k_is); (case fe1 => kernel_rfl); (case fb1 => kernel_rfl); (case fs1 => kernel_rfl)
    (case fa2 => k_is); (case fl2 => k_is); (case fc2 => k_is); (case fk2 => k_is); (case fe2 => kernel_rfl); (case fb2 => kernel_rfl); (case fs2 => kernel_rfl)
    (case fa3 => k_is); (case fl3 => k_is); (case fc3 => k_is); (case fk3 => k_is); (case fe3 => kernel_rfl); (case fb3 => kernel_rfl); (case fs3 => kernel_rfl)
    (case fa4 => k_is); (case fl4 => k_is); (case fc4 => k_is); (case fk4 => k_is); (case fe4 => kernel_rfl); (case fb4 => kernel_rfl); (case fs4 => kernel_rfl)
    (case fa5 => k_is); (case fl5 => k_is); (case fc5 => k_is); (case fk5 => k_is); (case fe5 => kernel_rfl); (case fb5 => kernel_rfl); (case fs5 => kernel_rfl)
    (case fa6 => k_is); (case fl6 => k_is); (case fc6 => k_is); (case fk6 => k_is); (case fe6 => kernel_rfl); (case fb6 => kernel_rfl); (case fs6 => kernel_rfl)
    (case fa7 => k_is); (case fl7 => k_is); (case fc7 => k_is); (case fk7 => k_is); (case fe7 => kernel_rfl); (case fb7 => kernel_rfl); (case fs7 => kernel_rfl)
    (case fa8 => k_is); (case fl8 => k_is); (case fc8 => k_is); (case fk8 => k_is); (case fe8 => kernel_rfl); (case fb8 => kernel_rfl); (case fs8 => kernel_rfl)
    (case fa9 => k_is); (case fl9 => k_is); (case fc9 => k_is); (case fk9 => k_is); (case fe9 => kernel_rfl); (case fb9 => kernel_rfl); (case fs9 => kernel_rfl)
    (case fa10 => k_is); (case fl10 => k_is); (case fc10 => k_is); (case fk10 => k_is); (case fe10 => kernel_rfl); (case fb10 => kernel_rfl); (case fs10 => kernel_rfl)
    (case fa11 => k_is); (case fl11 => k_is); (case fc11 => k_is); (case fk11 => k_is); (case fe11 => kernel_rfl); (case fb11 => kernel_rfl); (case fs11 => kernel_rfl)
    (case fa12 => k_is); (case fl12 => k_is); (case fc12 => k_is); (case fk12 => k_is); (case fe12 => kernel_rfl); (case fb12 => kernel_rfl); (case fs12 => kernel_rfl)
    (case fa13 => k_is); (case fl13 => k_is); (case fc13 => k_is); (case fk13 => k_is); (case fe13 => kernel_rfl); (case fb13 => kernel_rfl); (case fs13 => kernel_rfl)
    (case fm14_1 => k_is)
    (case fm14_2 => k_is)
    (case fm14_3 => k_is)
    (case fm14_4 => k_is)
    (case fm14_5 => k_is)
    (case fm14_6 => k_is)
    (case fm14_7 => k_is)
    (case fm14_8 => k_is)
    (case fm14_9 => k_is)
    (case fm14_10 => k_is)
    (case fm14_11 => k_is)
    (case fe14 => kernel_rfl); (case fb14 => kernel_rfl); (case fs14 => kernel_rfl)
    (case fm15_1 => k_is)
    (case fm15_2 => k_is)
    (case fm15_3 => k_is)
    (case fm15_4 => k_is)
    (case fm15_5 => k_is)
    (case fm15_6 => k_is)
    (case fm15_7 => k_is)
    (case fm15_8 => k_is)
    (case fm15_9 => k_is)
    (case fm15_10 => k_is)
    (case fe15 => kernel_rfl); (case fb15 => kernel_rfl); (case fs15 => kernel_rfl)
    (case fm16_1 => k_is)
    (case fm16_2 => k_is)
    (case fm16_3 => k_is)
    (case fm16_4 => k_is)
    (case fm16_5 => k_is)
    (case fm16_6 => k_is)
    (case fm16_7 => k_is)
    (case fm16_8 => k_is)
    (case fm16_9 => k_is)
    (case fm16_10 => k_is)
    (case fe16 => kernel_rfl); (case fb16 => kernel_rfl); (case fs16 => kernel_rfl)
    (case fa17 => k_is); (case fl17 => k_is); (case fc17 => k_is); (case fk17 => k_is); (case fe17 => kernel_rfl); (case fb17 => kernel_rfl); (case fs17 => kernel_rfl)
    (case fa18 => k_is); (case fl18 => k_is); (case fc18 => k_is); (case fk18 => k_is); (case fe18 => kernel_rfl); (case fb18 => kernel_rfl); (case fs18 => kernel_rfl)
    (case fa19 => k_is); (case fl19 => k_is); (case fc19 => k_is); (case fk19 => k_is); (case fe19 => kernel_rfl); (case fb19 => kernel_rfl); (case fs19 => kernel_rfl)
    (case fa20 => k_is); (case fl20 => k_is); (case fc20 => k_is); (case fk20 => k_is); (case fe20 => kernel_rfl); (case fb20 => kernel_rfl); (case fs20 => kernel_rfl)
    (case fa21 => k_is); (case fl21 => k_is); (case fc21 => k_is); (case fk21 => k_is); (case fe21 => kernel_rfl); (case fb21 => kernel_rfl); (case fs21 => kernel_rfl)
    (case fa22 => k_is); (case fl22 => k_is); (case fc22 => k_is); (case fk22 => k_is); (case fe22 => kernel_rfl); (case fb22 => kernel_rfl); (case fs22 => kernel_rfl)
    (case fa23 => k_is); (case fl23 => k_is); (case fc23 => k_is); (case fk23 => k_is); (case fe23 => kernel_rfl); (case fb23 => kernel_rfl); (case fs23 => kernel_rfl)
    (case fa24 => k_is); (case fl24 => k_is); (case fc24 => k_is); (case fk24 => k_is); (case fe24 => kernel_rfl); (case fb24 => kernel_rfl); (case fs24 => kernel_rfl)
    (case fa25 => k_is); (case fl25 => k_is); (case fc25 => k_is); (case fk25 => k_is); (case fe25 => kernel_rfl); (case fb25 => kernel_rfl); (case fs25 => kernel_rfl)
    (case fa26 => k_is); (case fl26 => k_is); (case fc26 => k_is); (case fk26 => k_is); (case fe26 => kernel_rfl); (case fb26 => kernel_rfl); (case fs26 => kernel_rfl)
    (case fa27 => k_is); (case fl27 => k_is); (case fc27 => k_is); (case fk27 => k_is); (case fe27 => kernel_rfl); (case fb27 => kernel_rfl); (case fs27 => kernel_rfl)
    (case fa28 => k_is); (case fl28 => k_is); (case fc28 => k_is); (case fk28 => k_is); (case fe28 => kernel_rfl); (case fb28 => kernel_rfl); (case fs28 => kernel_rfl)
    (case fa29 => k_is); (case fl29 => k_is); (case fc29 => k_is); (case fk29 => k_is); (case fe29 => kernel_rfl); (case fb29 => kernel_rfl); (case fs29 => kernel_rfl)
    (case fa30 => k_is); (case fl30 => k_is); (case fc30 => k_is); (case fk30 => k_is); (case fe30 => kernel_rfl); (case fb30 => kernel_rfl); (case fs30 => kernel_rfl)
    (case fa31 => k_is); (case fl31 => k_is); (case fc31 => k_is); (case fk31 => k_is); (case fe31 => kernel_rfl); (case fb31 => kernel_rfl); (case fs31 => kernel_rfl)
    (case fa32 => k_is); (case fl32 => k_is); (case fc32 => k_is); (case fk32 => k_is); (case fe32 => kernel_rfl); (case fb32 => kernel_rfl); (case fs32 => kernel_rfl)
    (case fa33 => k_is); (case fl33 => k_is); (case fc33 => k_is); (case fk33 => k_is); (case fe33 => kernel_rfl); (case fb33 => kernel_rfl); (case fs33 => kernel_rfl)
    (case z0 => k_is)
    (case z1 => k_is)
    (case z2 => k_is)
    (case z3 => k_is)
    (case z4 => k_is)
    (case z5 => k_is)
    (case z6 => k_is)
    (case z7 => k_is)
    (case z8 => k_is)
    (case z9 => k_is)
    (case z10 => k_is)
    (case z11 => k_is)
    (case z12 => k_is)
    (case e0_1 => k_is)
    (case e0_2 => k_is)
    (case e0_3 => k_is)
    (case e0_4 => k_is)
    (case e0_5 => k_is)
    (case e0_6 => intro f hf; simp only [List.mem_cons, List.not_mem_nil, or_false] at hf; rcases hf with rfl | rfl | rfl | rfl | rfl <;> k_is)

