import PyProof.Rows.All
import Wide.All
import OpenK.AllK
import Wide.FinOn
import HandS.ForMost
import HandS.WideBits
import HandS.IsInst
import HandS.Deep
import HandS.Conv
import HandS.Walk
import KE.LtData
import HandS.Star
import HandS.RaiseMore
import PyProof.StrLawsRepr
import HandS.TupAny
import HandS.Property
import HandS.ExcInit
import HandS.Nested
import HandS.ExcField
import HandS.TryMany
import HandS.WordsExc
import KE.KExcSuper
import HandS.EndBits
import PyProof.ReprRoads
import PyProof.ReprBulk
import HandS.Gcd
import HandS.Sort
import KE.KSortTupG
import HandS.Flt
import PyProof.StrOps2
import HandS.DictComp
import HandS.Flow
import HandS.Iter
import HandS.Style
import KE.KRevSl
import KE.KCallOwn
import HandS.ExcValue
import HandS.SortKw
import KE.SortKeyHeap
import HandS.ExcIs
import HandS.StrMore
import HandS.TupMul
import PyProof.P3In
import PyProof.StrLawsIn
import PySem.Challenge.RW_dwindlewise_k60_whole_sendings_keep
import KE.RegKSuper
import KE.RegKIsAll
import KE.RegKTryMore
set_option Elab.async false
set_option linter.all false
set_option maxRecDepth 100000
section
set_option maxHeartbeats 4000000
/-! By-value layer over the hand layer: data as trees, private lists by slots. -/
namespace BV
open PySem L2

/-! ### data -/
inductive DKey where
  | i (n : Int) | s (w : List Nat)
  deriving DecidableEq
def DKey.toK : DKey → Key
  | .i n => .inl n
  | .s w => .inr ⟨w.toArray⟩
theorem DKey.toK_inj : ∀ {a b : DKey}, a.toK = b.toK → a = b
  | .i n, .i m, h => by cases h; rfl
  | .s w, .s u, h => by
    have h1 := Sum.inr.inj h
    have h2 : w.toArray = u.toArray := congrArg Str.cps h1
    have h3 := congrArg Array.toList h2
    simp at h3
    rw [h3]
  | .i _, .s _, h => by cases h
  | .s _, .i _, h => by cases h
inductive Dat where
  | non | bl (b : Bool) | int (i : Int) | str (w : List Nat)
  | tup (ds : List Dat) | lst (ds : List Dat) | scr (ns : List Int)
  | dk (kvs : List (DKey × Dat)) | dt (kvs : List (List DKey × Dat)) | fk (kvs : List (DKey × Dat))
  | obj (C : Addr) (fs : List (Str × Dat))
  | oth (v : V)

mutual
inductive Rep (K : PySem.W.Frag) (B : Hp) : V → Dat → Prop
  | non : Rep K B .non .non
  | bl (b : Bool) : Rep K B (.bl b) (.bl b)
  | int (i : Int) : Rep K B (.int i) (.int i)
  | str (w : List Nat) : Rep K B (.str ⟨w.toArray⟩) (.str w)
  | tup {a : Addr} {xs : List V} {ds : List Dat} : SqT K B a xs → RepL K B xs ds → Rep K B (.ref a) (.tup ds)
  | lst {a : Addr} {xs : List V} {ds : List Dat} : B a = some (.lst xs) → RepL K B xs ds → Rep K B (.ref a) (.lst ds)
  | scr {a : Addr} {ns : List Int} : SqL K B a (ns.map V.int) → Rep K B (.ref a) (.scr ns)
  | dk {a : Addr} {xs : List (Key × V)} {kvs : List (DKey × Dat)} : B a = some (.dK xs) → RepD K B xs kvs → Rep K B (.ref a) (.dk kvs)
  | dt {a : Addr} {xs : List (List Key × V)} {kvs : List (List DKey × Dat)} : B a = some (.dT xs) → RepT K B xs kvs → Rep K B (.ref a) (.dt kvs)
  | fk {a : Addr} {ob : Obj} {xs : List (Key × V)} {kvs : List (DKey × Dat)} : B a = some (.frz ob (.dK xs)) → RepD K B xs kvs → Rep K B (.ref a) (.fk kvs)
  | obj {a C dx : Addr} {xs : List (Str × V)} {fs : List (Str × Dat)} : B a = some (.ins C dx xs) → RepF K B xs fs → Rep K B (.ref a) (.obj C fs)
  | oth (v : V) : Rep K B v (.oth v)
inductive RepL (K : PySem.W.Frag) (B : Hp) : List V → List Dat → Prop
  | nil : RepL K B [] []
  | cons {v : V} {d : Dat} {xs : List V} {ds : List Dat} : Rep K B v d → RepL K B xs ds → RepL K B (v :: xs) (d :: ds)
inductive RepD (K : PySem.W.Frag) (B : Hp) : List (Key × V) → List (DKey × Dat) → Prop
  | nil : RepD K B [] []
  | cons {k : DKey} {v : V} {d : Dat} {xs : List (Key × V)} {ds : List (DKey × Dat)} : Rep K B v d → RepD K B xs ds → RepD K B ((k.toK, v) :: xs) ((k, d) :: ds)
inductive RepT (K : PySem.W.Frag) (B : Hp) : List (List Key × V) → List (List DKey × Dat) → Prop
  | nil : RepT K B [] []
  | cons {k : List DKey} {v : V} {d : Dat} {xs : List (List Key × V)} {ds : List (List DKey × Dat)} : Rep K B v d → RepT K B xs ds → RepT K B ((k.map DKey.toK, v) :: xs) ((k, d) :: ds)
inductive RepF (K : PySem.W.Frag) (B : Hp) : List (Str × V) → List (Str × Dat) → Prop
  | nil : RepF K B [] []
  | cons {k : Str} {v : V} {d : Dat} {xs : List (Str × V)} {ds : List (Str × Dat)} : Rep K B v d → RepF K B xs ds → RepF K B ((k, v) :: xs) ((k, d) :: ds)
end

def Ex (H H' : Hp) : Prop := ∀ a o, H a = some o → H' a = some o
theorem Ex.refl (H : Hp) : Ex H H := fun _ _ h => h
theorem Ex.trans {H H1 H2 : Hp} (a : Ex H H1) (b : Ex H1 H2) : Ex H H2 := fun x o h => b x o (a x o h)
theorem Ex.new {H : Hp} {p : Addr} {o : HO} (h : H p = none) : Ex H (upd H p o) := fun a u e => by
  rw [upd_ne (ne_of_none e h)]
  exact e
section
variable {K : PySem.W.Frag} {B B' H H' : Hp}
theorem ex_rd {a : Addr} {u : HO} (e : Ex H H') (h : Rd H a u) : Rd H' a u := by
  rcases h with h | ⟨o, h⟩
  · exact Or.inl (e a _ h)
  · exact Or.inr ⟨o, e a _ h⟩
theorem ex_l {a : Addr} {xs : List V} (e : Ex H H') (h : SqL K H a xs) : SqL K H' a xs := by
  rcases h with h | h
  · exact Or.inl (ex_rd e h)
  · exact Or.inr h
theorem ex_t {a : Addr} {xs : List V} (e : Ex H H') (h : SqT K H a xs) : SqT K H' a xs := by
  rcases h with h | h
  · exact Or.inl (ex_rd e h)
  · exact Or.inr h
theorem rep_all (e : Ex B B') : (∀ v d, Rep K B v d → Rep K B' v d) ∧ (∀ v d, RepL K B v d → RepL K B' v d) ∧ (∀ v d, RepD K B v d → RepD K B' v d) ∧ (∀ v d, RepT K B v d → RepT K B' v d) ∧ (∀ v d, RepF K B v d → RepF K B' v d) := by
  refine ⟨fun v d h => ?_, fun v d h => ?_, fun v d h => ?_, fun v d h => ?_, fun v d h => ?_⟩
  · exact Rep.rec (motive_1 := fun v d _ => Rep K B' v d) (motive_2 := fun v d _ => RepL K B' v d) (motive_3 := fun v d _ => RepD K B' v d) (motive_4 := fun v d _ => RepT K B' v d) (motive_5 := fun v d _ => RepF K B' v d)
      .non .bl .int .str (fun s _ i => .tup (ex_t e s) i) (fun s _ i => .lst (e _ _ s) i) (fun s => .scr (ex_l e s)) (fun s _ i => .dk (e _ _ s) i) (fun s _ i => .dt (e _ _ s) i) (fun s _ i => .fk (e _ _ s) i) (fun s _ i => .obj (e _ _ s) i) .oth
      .nil (fun _ _ i j => .cons i j) .nil (fun _ _ i j => .cons i j) .nil (fun _ _ i j => .cons i j) .nil (fun _ _ i j => .cons i j) h
  · exact RepL.rec (motive_1 := fun v d _ => Rep K B' v d) (motive_2 := fun v d _ => RepL K B' v d) (motive_3 := fun v d _ => RepD K B' v d) (motive_4 := fun v d _ => RepT K B' v d) (motive_5 := fun v d _ => RepF K B' v d)
      .non .bl .int .str (fun s _ i => .tup (ex_t e s) i) (fun s _ i => .lst (e _ _ s) i) (fun s => .scr (ex_l e s)) (fun s _ i => .dk (e _ _ s) i) (fun s _ i => .dt (e _ _ s) i) (fun s _ i => .fk (e _ _ s) i) (fun s _ i => .obj (e _ _ s) i) .oth
      .nil (fun _ _ i j => .cons i j) .nil (fun _ _ i j => .cons i j) .nil (fun _ _ i j => .cons i j) .nil (fun _ _ i j => .cons i j) h
  · exact RepD.rec (motive_1 := fun v d _ => Rep K B' v d) (motive_2 := fun v d _ => RepL K B' v d) (motive_3 := fun v d _ => RepD K B' v d) (motive_4 := fun v d _ => RepT K B' v d) (motive_5 := fun v d _ => RepF K B' v d)
      .non .bl .int .str (fun s _ i => .tup (ex_t e s) i) (fun s _ i => .lst (e _ _ s) i) (fun s => .scr (ex_l e s)) (fun s _ i => .dk (e _ _ s) i) (fun s _ i => .dt (e _ _ s) i) (fun s _ i => .fk (e _ _ s) i) (fun s _ i => .obj (e _ _ s) i) .oth
      .nil (fun _ _ i j => .cons i j) .nil (fun _ _ i j => .cons i j) .nil (fun _ _ i j => .cons i j) .nil (fun _ _ i j => .cons i j) h
  · exact RepT.rec (motive_1 := fun v d _ => Rep K B' v d) (motive_2 := fun v d _ => RepL K B' v d) (motive_3 := fun v d _ => RepD K B' v d) (motive_4 := fun v d _ => RepT K B' v d) (motive_5 := fun v d _ => RepF K B' v d)
      .non .bl .int .str (fun s _ i => .tup (ex_t e s) i) (fun s _ i => .lst (e _ _ s) i) (fun s => .scr (ex_l e s)) (fun s _ i => .dk (e _ _ s) i) (fun s _ i => .dt (e _ _ s) i) (fun s _ i => .fk (e _ _ s) i) (fun s _ i => .obj (e _ _ s) i) .oth
      .nil (fun _ _ i j => .cons i j) .nil (fun _ _ i j => .cons i j) .nil (fun _ _ i j => .cons i j) .nil (fun _ _ i j => .cons i j) h
  · exact RepF.rec (motive_1 := fun v d _ => Rep K B' v d) (motive_2 := fun v d _ => RepL K B' v d) (motive_3 := fun v d _ => RepD K B' v d) (motive_4 := fun v d _ => RepT K B' v d) (motive_5 := fun v d _ => RepF K B' v d)
      .non .bl .int .str (fun s _ i => .tup (ex_t e s) i) (fun s _ i => .lst (e _ _ s) i) (fun s => .scr (ex_l e s)) (fun s _ i => .dk (e _ _ s) i) (fun s _ i => .dt (e _ _ s) i) (fun s _ i => .fk (e _ _ s) i) (fun s _ i => .obj (e _ _ s) i) .oth
      .nil (fun _ _ i j => .cons i j) .nil (fun _ _ i j => .cons i j) .nil (fun _ _ i j => .cons i j) .nil (fun _ _ i j => .cons i j) h
theorem Rep.mono {v : V} {d : Dat} (e : Ex B B') (h : Rep K B v d) : Rep K B' v d := (rep_all e).1 _ _ h
theorem RepL.mono {v : List V} {d : List Dat} (e : Ex B B') (h : RepL K B v d) : RepL K B' v d := (rep_all e).2.1 _ _ h
theorem RepD.mono {v : List (Key × V)} {d : List (DKey × Dat)} (e : Ex B B') (h : RepD K B v d) : RepD K B' v d := (rep_all e).2.2.1 _ _ h
theorem RepT.mono {v : List (List Key × V)} {d : List (List DKey × Dat)} (e : Ex B B') (h : RepT K B v d) : RepT K B' v d := (rep_all e).2.2.2.1 _ _ h
theorem RepF.mono {v : List (Str × V)} {d : List (Str × Dat)} (e : Ex B B') (h : RepF K B v d) : RepF K B' v d := (rep_all e).2.2.2.2 _ _ h

/-! ### lists of data -/
theorem RepL.length : ∀ {xs : List V} {ds : List Dat}, RepL K B xs ds → xs.length = ds.length
  | _, _, .nil => rfl
  | _, _, .cons _ t => by rw [List.length_cons, List.length_cons, RepL.length t]
theorem RepL.get : ∀ {xs : List V} {ds : List Dat} {i : Nat} {d : Dat}, RepL K B xs ds → ds[i]? = some d → ∃ v, xs[i]? = some v ∧ Rep K B v d
  | _, _, _, _, .nil, e => by simp at e
  | _, _, 0, _, .cons r _, e => by
    simp at e
    subst e
    exact ⟨_, rfl, r⟩
  | _, _, i + 1, d, .cons _ t, e => by
    obtain ⟨v, h1, h2⟩ := RepL.get (i := i) (d := d) t (by simpa using e)
    exact ⟨v, by simpa using h1, h2⟩
theorem RepL.get' : ∀ {xs : List V} {ds : List Dat} {i : Nat} {v : V}, RepL K B xs ds → xs[i]? = some v → ∃ d, ds[i]? = some d ∧ Rep K B v d
  | _, _, _, _, .nil, e => by simp at e
  | _, _, 0, _, .cons r _, e => by
    simp at e
    subst e
    exact ⟨_, rfl, r⟩
  | _, _, i + 1, d, .cons _ t, e => by
    obtain ⟨v, h1, h2⟩ := RepL.get' (i := i) (v := d) t (by simpa using e)
    exact ⟨v, by simpa using h1, h2⟩
theorem RepL.append : ∀ {xs ys : List V} {ds es : List Dat}, RepL K B xs ds → RepL K B ys es → RepL K B (xs ++ ys) (ds ++ es)
  | _, _, _, _, .nil, s => s
  | _, _, _, _, .cons r t, s => .cons r (RepL.append t s)
theorem RepL.take : ∀ {xs : List V} {ds : List Dat} (n : Nat), RepL K B xs ds → RepL K B (xs.take n) (ds.take n)
  | _, _, 0, _ => .nil
  | _, _, _ + 1, .nil => .nil
  | _, _, n + 1, .cons r t => .cons r (RepL.take n t)
theorem RepL.drop : ∀ {xs : List V} {ds : List Dat} (n : Nat), RepL K B xs ds → RepL K B (xs.drop n) (ds.drop n)
  | _, _, 0, r => r
  | _, _, _ + 1, .nil => .nil
  | _, _, n + 1, .cons r t => RepL.drop n t
theorem RepL.set {x : V} {d : Dat} (r : Rep K B x d) : ∀ {xs : List V} {ds : List Dat} (i : Nat), RepL K B xs ds → RepL K B (xs.set i x) (ds.set i d)
  | _, _, _, .nil => .nil
  | _, _, 0, .cons _ t => .cons r t
  | _, _, i + 1, .cons q t => .cons q (RepL.set r i t)
theorem RepL.one {x : V} {d : Dat} (r : Rep K B x d) : RepL K B [x] [d] := .cons r .nil
theorem RepL.eraseIdx : ∀ {xs : List V} {ds : List Dat} (i : Nat), RepL K B xs ds → RepL K B (xs.eraseIdx i) (ds.eraseIdx i)
  | _, _, _, .nil => .nil
  | _, _, 0, .cons _ t => t
  | _, _, i + 1, .cons q t => .cons q (RepL.eraseIdx i t)
theorem RepL.reverse : ∀ {xs : List V} {ds : List Dat}, RepL K B xs ds → RepL K B xs.reverse ds.reverse
  | _, _, .nil => .nil
  | _, _, .cons r t => by
    rw [List.reverse_cons, List.reverse_cons]
    exact (RepL.reverse t).append (.one r)
theorem RepL.ints : ∀ {xs : List V} {ns : List Int}, RepL K B xs (ns.map Dat.int) → xs = ns.map V.int
  | _, [], .nil => rfl
  | _, n :: ns, .cons r t => by
    cases r with
    | int i => rw [RepL.ints t]; rfl
theorem RepL.ofInts : ∀ (ns : List Int), RepL K B (ns.map V.int) (ns.map Dat.int)
  | [] => .nil
  | n :: ns => .cons (.int n) (RepL.ofInts ns)
theorem RepL.bools : ∀ {xs : List V} {ns : List Bool}, RepL K B xs (ns.map Dat.bl) → xs = ns.map V.bl
  | _, [], .nil => rfl
  | _, n :: ns, .cons r t => by
    cases r with
    | bl i => rw [RepL.bools t]; rfl
theorem RepL.strs : ∀ {xs : List V} {ns : List (List Nat)}, RepL K B xs (ns.map Dat.str) → xs = ns.map (fun w => V.str ⟨w.toArray⟩)
  | _, [], .nil => rfl
  | _, n :: ns, .cons r t => by
    cases r with
    | str i => rw [RepL.strs t]; rfl
theorem RepF.lookup : ∀ {xs : List (Str × V)} {fs : List (Str × Dat)} {f : Str} {d : Dat}, RepF K B xs fs → fs.lookup f = some d → ∃ v, xs.lookup f = some v ∧ Rep K B v d
  | _, _, _, _, .nil, e => by simp at e
  | (k, v) :: xs, (_, d0) :: ds, f, d, .cons r t, e => by
    by_cases h : f == k
    · rw [List.lookup_cons, h] at e
      refine ⟨v, by rw [List.lookup_cons, h], ?_⟩
      cases e
      exact r
    · have h' : (f == k) = false := by simpa using h
      rw [List.lookup_cons, h'] at e
      obtain ⟨u, h1, h2⟩ := RepF.lookup t e
      exact ⟨u, by rw [List.lookup_cons, h']; exact h1, h2⟩
theorem RepF.lookupN : ∀ {xs : List (Str × V)} {fs : List (Str × Dat)} {f : Str}, RepF K B xs fs → fs.lookup f = none → xs.lookup f = none
  | _, _, _, .nil, e => by simp
  | (k, v) :: xs, (_, d0) :: ds, f, .cons r t, e => by
    by_cases h : f == k
    · rw [List.lookup_cons, h] at e
      cases e
    · have h' : (f == k) = false := by simpa using h
      rw [List.lookup_cons, h'] at e ⊢
      exact RepF.lookupN t e
theorem RepF.length : ∀ {xs : List (Str × V)} {fs : List (Str × Dat)}, RepF K B xs fs → xs.length = fs.length
  | _, _, .nil => rfl
  | _, _, .cons _ t => by rw [List.length_cons, List.length_cons, RepF.length t]
def putD (f : Str) (v : Dat) : List (Str × Dat) → List (Str × Dat)
  | [] => [(f, v)]
  | (g, x) :: r => if g = f then (f, v) :: r else (g, x) :: putD f v r
end
end BV

end

section
set_option maxHeartbeats 4000000
namespace BV
open PySem L2

theorem putF_rep {K : PySem.W.Frag} {B : Hp} {f : Str} {v : V} {d : Dat} (r : Rep K B v d) : ∀ {xs : List (Str × V)} {fs : List (Str × Dat)}, RepF K B xs fs → RepF K B (putF f v xs) (putD f d fs)
  | _, _, .nil => .cons r .nil
  | (k, w) :: xs, (_, e) :: ds, .cons q t => by
    show RepF K B (if k = f then (k, v) :: xs else (k, w) :: putF f v xs) (if k = f then (f, d) :: ds else (k, e) :: putD f d ds)
    by_cases h : k = f
    · rw [if_pos h, if_pos h, h]
      exact .cons r t
    · rw [if_neg h, if_neg h]
      exact .cons q (putF_rep r t)

/-! ### views -/
open Classical in
noncomputable def hid (p : Addr → Prop) (H : Hp) : Hp := fun b => if p b then none else H b
theorem hid_some {p : Addr → Prop} {H : Hp} {b : Addr} {o : HO} : hid p H b = some o ↔ ¬ p b ∧ H b = some o := by
  unfold hid
  by_cases h : p b
  · rw [if_pos h]
    constructor
    · intro e
      cases e
    · intro e
      exact absurd h e.1
  · rw [if_neg h]
    exact ⟨fun e => ⟨h, e⟩, fun e => e.2⟩
theorem hid_ex {p q : Addr → Prop} {H H' : Hp} (h : ∀ b o, ¬ p b → H b = some o → ¬ q b ∧ H' b = some o) : Ex (hid p H) (hid q H') := fun b o e =>
  let ⟨e1, e2⟩ := hid_some.mp e
  hid_some.mpr (h b o e1 e2)
theorem hid_le {p : Addr → Prop} {H : Hp} : Ex (hid p H) H := fun b o e => (hid_some.mp e).2

/-! ### slots -/
inductive Slot where
  | no | d (x : Dat) | own (ds : List Dat) | od (kvs : List (DKey × Dat)) | ot (kvs : List (List DKey × Dat)) | src (a : Addr) | ins (a C : Addr) (fs : List (Str × Dat)) | exc (a d C : Addr) (fs : List (Str × Dat))

def SrcAt (H : Hp) (a : Addr) : Prop := ∃ n s c : Int, H a = some (.lst [.int n, .int s, .int c])

/-- a slot's private address -/
def pa : Slot → Option V → Option Addr
  | .own _, some (.ref a) => some a
  | .od _, some (.ref a) => some a
  | .ot _, some (.ref a) => some a
  | .src a, _ => some a
  | .ins a _ _, _ => some a
  | _, _ => none
/-- one in flux -/
def fa : Slot → Option V → Option Addr
  | .src a, _ => some a
  | _, _ => none
theorem fa_pa {s : Slot} {v : Option V} {a : Addr} (h : fa s v = some a) : pa s v = some a := by
  unfold fa at h
  split at h
  · exact h
  · cases h

structure Bc where
  P : Addr → Prop
  X : Addr → Prop
  H0 : Hp

def Pr (ρ : List Slot) (σ : St) (a : Addr) : Prop := ∃ (i : Nat) (s : Slot) (v : Option V), ρ[i]? = some s ∧ σ[i]? = some v ∧ pa s v = some a
def Fr (ρ : List Slot) (σ : St) (a : Addr) : Prop := ∃ (i : Nat) (s : Slot) (v : Option V), ρ[i]? = some s ∧ σ[i]? = some v ∧ fa s v = some a
theorem Fr.pr {ρ : List Slot} {σ : St} {a : Addr} : Fr ρ σ a → Pr ρ σ a := fun ⟨i, s, v, h1, h2, h3⟩ => ⟨i, s, v, h1, h2, fa_pa h3⟩

/-- the view in grade w: true shows own lists too -/
noncomputable def vw (c : Bc) (w : Bool) (ρ : List Slot) (σ : St) (H : Hp) : Hp := hid (fun b => c.P b ∨ (if w = true then Fr ρ σ b else Pr ρ σ b)) H
noncomputable abbrev sv (c : Bc) (ρ : List Slot) (σ : St) (H : Hp) : Hp := vw c false ρ σ H

def SlR (K : PySem.W.Frag) (B H : Hp) : Slot → Option V → Prop
  | .no, _ => True
  | .d x, o => ∃ u, o = some u ∧ Rep K B u x
  | .own ds, o => ∃ a xs, o = some (.ref a) ∧ H a = some (.lst xs) ∧ RepL K B xs ds
  | .od kvs, o => ∃ a xs, o = some (.ref a) ∧ H a = some (.dK xs) ∧ RepD K B xs kvs
  | .ot kvs, o => ∃ a xs, o = some (.ref a) ∧ H a = some (.dT xs) ∧ RepT K B xs kvs
  | .src a, o => o = some (.ref a) ∧ SrcAt H a
  | .ins a C fs, o => ∃ dx xs, o = some (.ref a) ∧ H a = some (.ins C dx xs) ∧ RepF K B xs fs
  | .exc a d _ fs, o => ∃ xs, o = some (.ref a) ∧ B d = some (.xd xs) ∧ RepF K B xs fs

structure Ok0 (K : PySem.W.Frag) (c : Bc) (ρ : List Slot) (σ : St) (H : Hp) : Prop where
  len : ρ.length = σ.length
  sl : ∀ (i : Nat) s v, ρ[i]? = some s → σ[i]? = some v → SlR K (sv c ρ σ H) H s v
  inj : ∀ (i j : Nat) s v s' v' a, ρ[i]? = some s → σ[i]? = some v → pa s v = some a → ρ[j]? = some s' → σ[j]? = some v' → pa s' v' = some a → i = j
  np : ∀ a, Pr ρ σ a → ¬ c.P a
  fr : ∀ b o, ¬ c.X b → c.H0 b = some o → H b = some o
  xs : ∀ a, Pr ρ σ a → c.X a ∨ c.H0 a = none
  pt : ∀ a, c.P a → ∃ o, H a = some o

/-- the written part, what an exception that leaves must meet (its class, its dict, the slots, the heap), and what is told of it -/
structure KB where
  F : PySem.W.Frag
  E : Value → Option Addr → St → Hp → Prop
  RE : Addr → List (Str × Dat) → List Slot → Prop
instance : Coe KB PySem.W.Frag := ⟨KB.F⟩
/-- nothing leaves -/
@[reducible] def KB.of (F : PySem.W.Frag) : KB := ⟨F, fun _ _ _ _ => False, fun _ _ _ => False⟩
def XOk (K : KB) (c : Bc) : Prop := ∀ (C dx : Addr) (ρ : List Slot) (σ : St) (H' : Hp) (xs : List (Str × V)) (fs : List (Str × Dat)), Ok0 K.F c ρ σ H' → sv c ρ σ H' dx = some (.xd xs) → RepF K.F (sv c ρ σ H') xs fs → K.RE C fs ρ → K.E (.ref C) (some dx) σ H'
theorem XOk.of {F : PySem.W.Frag} {c : Bc} : XOk (KB.of F) c := fun _ _ _ _ _ _ _ _ _ _ h => h.elim
structure Ok (K : KB) (c : Bc) (ρ : List Slot) (σ : St) (H : Hp) : Prop extends Ok0 K.F c ρ σ H where
  xo : XOk K c
theorem XOk.tr {K : KB} {c c' : Bc} (x : XOk K c) (h : ∀ ρ σ H, Ok0 K.F c' ρ σ H → Ok0 K.F c ρ σ H) (e : ∀ ρ σ H, Ex (sv c' ρ σ H) (sv c ρ σ H)) : XOk K c' := fun C dx ρ σ H' xs fs o hd rf re =>
  x C dx ρ σ H' xs fs (h ρ σ H' o) (e ρ σ H' dx _ hd) (rf.mono (e ρ σ H')) re

def Le (c : Bc) (ρ : List Slot) (σ : St) (H H2 : Hp) : Prop := ∀ b o, ¬ Fr ρ σ b → H b = some o → H2 b = some o
theorem Le.refl {c : Bc} {ρ : List Slot} {σ : St} {H : Hp} : Le c ρ σ H H := fun _ _ _ h => h
theorem Le.trans {c : Bc} {ρ : List Slot} {σ : St} {H H1 H2 : Hp} (a : Le c ρ σ H H1) (b : Le c ρ σ H1 H2) : Le c ρ σ H H2 := fun x o h2 h => b x o h2 (a x o h2 h)
theorem Ex.le {c : Bc} {ρ : List Slot} {σ : St} {H H2 : Hp} (e : Ex H H2) : Le c ρ σ H H2 := fun b o _ h => e b o h
theorem Le.vw {c : Bc} {w : Bool} {ρ : List Slot} {σ : St} {H H2 : Hp} (l : Le c ρ σ H H2) : Ex (vw c w ρ σ H) (vw c w ρ σ H2) := by
  refine hid_ex fun b o hb e => ⟨hb, l b o (fun z => hb (.inr ?_)) e⟩
  cases w with
  | true => rw [if_pos rfl]; exact z
  | false => rw [if_neg Bool.false_ne_true]; exact z.pr
theorem vw_up {c : Bc} {ρ : List Slot} {σ : St} {H : Hp} : Ex (sv c ρ σ H) (vw c true ρ σ H) :=
  hid_ex fun b o hb e => ⟨fun z => hb (z.imp id fun y => by rw [if_neg Bool.false_ne_true]; rw [if_pos rfl] at y; exact y.pr), e⟩
theorem vw_up2 {c : Bc} {w : Bool} {ρ : List Slot} {σ : St} {H : Hp} : Ex (sv c ρ σ H) (vw c w ρ σ H) := by
  cases w with
  | true => exact vw_up
  | false => exact Ex.refl _
theorem vw_up3 {c : Bc} {w : Bool} {ρ : List Slot} {σ : St} {H : Hp} : Ex (vw c w ρ σ H) (vw c true ρ σ H) := by
  cases w with
  | true => exact Ex.refl _
  | false => exact vw_up
theorem vw_le {c : Bc} {w : Bool} {ρ : List Slot} {σ : St} {H : Hp} : Ex (vw c w ρ σ H) H := hid_le

section
variable {K : KB} {c : Bc} {w : Bool} {ρ : List Slot} {σ : St} {H H2 : Hp}
theorem SlR.tracked {B : Hp} {s : Slot} {v : Option V} {a : Addr} (r : SlR K B H s v) (h : pa s v = some a) : ∃ o, H a = some o ∧ ∀ ob xs, o ≠ .tup xs ∧ o ≠ .frz ob (.tup xs) := by
  cases s with
  | no => unfold pa at h; cases h
  | d x => unfold pa at h; cases h
  | own ds => obtain ⟨b, xs, rfl, e, _⟩ := r; cases h; exact ⟨_, e, fun _ _ => ⟨fun z => (by cases z), fun z => (by cases z)⟩⟩
  | od ds => obtain ⟨b, xs, rfl, e, _⟩ := r; cases h; exact ⟨_, e, fun _ _ => ⟨fun z => (by cases z), fun z => (by cases z)⟩⟩
  | ot ds => obtain ⟨b, xs, rfl, e, _⟩ := r; cases h; exact ⟨_, e, fun _ _ => ⟨fun z => (by cases z), fun z => (by cases z)⟩⟩
  | src b => obtain ⟨rfl, _, _, _, e⟩ := r; cases h; exact ⟨_, e, fun _ _ => ⟨fun z => (by cases z), fun z => (by cases z)⟩⟩
  | ins b C fs => obtain ⟨dx, xs, rfl, e, _⟩ := r; cases h; exact ⟨_, e, fun _ _ => ⟨fun z => (by cases z), fun z => (by cases z)⟩⟩
  | exc a d C fs => unfold pa at h; cases h
theorem Ok.tr (k : Ok K c ρ σ H) {a : Addr} (h : Pr ρ σ a) : ∃ o, H a = some o ∧ ∀ ob xs, o ≠ .tup xs ∧ o ≠ .frz ob (.tup xs) := by
  obtain ⟨i, s, v, h1, h2, h3⟩ := h
  exact (k.sl i s v h1 h2).tracked h3
theorem Ok.get (k : Ok K c ρ σ H) {i : Nat} {s : Slot} (h : ρ[i]? = some s) : ∃ v, σ[i]? = some v ∧ SlR K (sv c ρ σ H) H s v := by
  have hi : i < σ.length := by rw [← k.len]; exact (List.getElem?_eq_some_iff.mp h).1
  exact ⟨σ[i], List.getElem?_eq_getElem hi, k.sl i s _ h (List.getElem?_eq_getElem hi)⟩
/-- the heap grew off what is in flux, whose slots are still held -/
theorem Ok.grow (k : Ok K c ρ σ H) (l : Le c ρ σ H H2) (hf : ∀ (i : Nat) s v, ρ[i]? = some s → σ[i]? = some v → (fa s v).isSome = true → SlR K (sv c ρ σ H2) H2 s v) (fr : ∀ b o, ¬ c.X b → c.H0 b = some o → H2 b = some o)
    (pt : ∀ a, c.P a → ∃ o, H2 a = some o) : Ok K c ρ σ H2 := by
  refine ⟨⟨k.len, fun i s v h1 h2 => ?_, k.inj, k.np, fr, k.xs, pt⟩, k.xo⟩
  by_cases hs : (fa s v).isSome = true
  · exact hf i s v h1 h2 hs
  have q := k.sl i s v h1 h2
  have e := l.vw (w := false)
  have nf : ∀ a, pa s v = some a → ¬ c.P a ∧ ¬ Fr ρ σ a := fun a ha => by
    refine ⟨k.np a ⟨i, s, v, h1, h2, ha⟩, fun ⟨j, s', v', g1, g2, g3⟩ => ?_⟩
    have ij := k.inj i j s v s' v' a h1 h2 ha g1 g2 (fa_pa g3)
    subst ij
    rw [h1] at g1
    rw [h2] at g2
    cases g1
    cases g2
    exact hs (by rw [g3]; rfl)
  cases s with
  | no => trivial
  | d x => obtain ⟨u, e1, r⟩ := q; exact ⟨u, e1, r.mono e⟩
  | own ds =>
    obtain ⟨a, xs, rfl, e1, r⟩ := q
    have n := nf a rfl
    exact ⟨a, xs, rfl, l a _ n.2 e1, r.mono e⟩
  | od ds =>
    obtain ⟨a, xs, rfl, e1, r⟩ := q
    have n := nf a rfl
    exact ⟨a, xs, rfl, l a _ n.2 e1, r.mono e⟩
  | ot ds =>
    obtain ⟨a, xs, rfl, e1, r⟩ := q
    have n := nf a rfl
    exact ⟨a, xs, rfl, l a _ n.2 e1, r.mono e⟩
  | src a => exact absurd rfl hs
  | ins b C fs =>
    obtain ⟨dx, xs, rfl, e1, r⟩ := q
    have n := nf b rfl
    exact ⟨dx, xs, rfl, l b _ n.2 e1, r.mono e⟩
  | exc a d C fs =>
    obtain ⟨xs, rfl, e1, r⟩ := q
    exact ⟨xs, rfl, e d _ e1, r.mono e⟩
/-- everything tracked is as it was -/
theorem Ok.ex (k : Ok K c ρ σ H) (e : Ex H H2) : Ok K c ρ σ H2 := by
  refine k.grow e.le (fun i s v h1 h2 hs => ?_) (fun b o h1 h2 => e b o (k.fr b o h1 h2)) fun a ha => let ⟨o, h⟩ := k.pt a ha; ⟨o, e a o h⟩
  have q := k.sl i s v h1 h2
  cases s with
  | src a => obtain ⟨rfl, n, s, cc, e1⟩ := q; exact ⟨rfl, n, s, cc, e a _ e1⟩
  | no => trivial
  | _ => exact absurd hs (by simp [fa])
theorem Ok.vis (k : Ok K c ρ σ H) {p : Addr} (n : H p = none) : ¬ (c.P p ∨ if w = true then Fr ρ σ p else Pr ρ σ p) := by
  rintro (h | h)
  · obtain ⟨o, e⟩ := k.pt p h
    rw [n] at e
    cases e
  · have h' : Pr ρ σ p := by
      cases w with
      | true => rw [if_pos rfl] at h; exact h.pr
      | false => rw [if_neg Bool.false_ne_true] at h; exact h
    obtain ⟨o, e, _⟩ := k.tr h'
    rw [n] at e
    cases e
theorem Ok.vw_new (k : Ok K c ρ σ H) {p : Addr} {o : HO} (n : H p = none) : vw c w ρ σ (upd H p o) p = some o := hid_some.mpr ⟨k.vis n, upd_same⟩

/-! ### imm: no list within -/
mutual
def imm : Dat → Bool
  | .non => true
  | .bl _ => true
  | .int _ => true
  | .str _ => true
  | .tup ds => immL ds
  | _ => false
def immL : List Dat → Bool
  | [] => true
  | d :: ds => imm d && immL ds
end
theorem immL_all : ∀ {ds : List Dat}, (∀ d ∈ ds, imm d = true) → immL ds = true
  | [], _ => rfl
  | d :: ds, h => by
    unfold immL
    rw [h d List.mem_cons_self, immL_all fun x hx => h x (List.mem_cons_of_mem _ hx)]
    rfl
theorem imm_rep {B B' : Hp} (ht : ∀ a xs, SqT K B a xs → SqT K B' a xs) : (∀ v d, Rep K B v d → imm d = true → Rep K B' v d) := fun v d h =>
  Rep.rec (motive_1 := fun v d _ => imm d = true → Rep K B' v d) (motive_2 := fun v d _ => immL d = true → RepL K B' v d) (motive_3 := fun v d _ => True) (motive_4 := fun v d _ => True) (motive_5 := fun v d _ => True)
    (fun _ => .non) (fun b _ => .bl b) (fun i _ => .int i) (fun x _ => .str x) (fun s _ i hi => .tup (ht _ _ s) (i hi)) (fun s _ i hi => by cases hi) (fun s hi => by cases hi) (fun s _ i hi => by cases hi) (fun s _ i hi => by cases hi) (fun s _ i hi => by cases hi) (fun s _ i hi => by cases hi) (fun _ hi => by cases hi)
    (fun _ => .nil) (fun _ _ i j hi => by
      unfold immL at hi
      rw [Bool.and_eq_true] at hi
      exact .cons (i hi.1) (j hi.2)) trivial (fun _ _ _ _ => trivial) trivial (fun _ _ _ _ => trivial) trivial (fun _ _ _ _ => trivial) h
theorem Ok.imm (k : Ok K c ρ σ H) {v : V} {d : Dat} (r : Rep K (vw c true ρ σ H) v d) (hi : imm d = true) : Rep K (sv c ρ σ H) v d := by
  refine imm_rep (fun a xs h => ?_) v d r hi
  rcases h with h | h
  · refine .inl ?_
    have key : ∀ o, vw c true ρ σ H a = some o → (∃ ob, o = .tup xs ∨ o = .frz ob (.tup xs)) → sv c ρ σ H a = some o := fun o e1 ho => by
      obtain ⟨n1, e2⟩ := hid_some.mp e1
      refine hid_some.mpr ⟨fun z => ?_, e2⟩
      rcases z with z | z
      · exact n1 (.inl z)
      · rw [if_neg Bool.false_ne_true] at z
        obtain ⟨o', e3, n3⟩ := k.tr z
        rw [e2] at e3
        cases e3
        obtain ⟨ob, ho | ho⟩ := ho
        · exact (n3 ob xs).1 ho
        · exact (n3 ob xs).2 ho
    rcases h with h | ⟨ob, h⟩
    · exact .inl (key _ h ⟨⟨.none, none, .plain, #[]⟩, .inl rfl⟩)
    · exact .inr ⟨ob, key _ h ⟨ob, .inr rfl⟩⟩
  · exact .inr h

/-! ### what an expression comes to -/
end
def G (K : KB) (w : Bool) (ρ : List Slot) (te : TE) (R : Dat → Prop) : Prop := ∀ c σ H, Ok K c ρ σ H → ∀ Q : VK, (∀ v H2 d, Ok K c ρ σ H2 → Le c ρ σ H H2 → Rep K (vw c w ρ σ H2) v d → R d → Q v H2) → te σ H Q
def GT (K : KB) (ρ : List Slot) (tt : TT) (R : Bool → Prop) : Prop := ∀ c σ H, Ok K c ρ σ H → ∀ Q : Bool → Hp → Prop, (∀ b H2, Ok K c ρ σ H2 → Le c ρ σ H H2 → R b → Q b H2) → tt σ H Q
def GA (K : KB) (w : Bool) (ρ : List Slot) (ta : TA) (R : List Dat → Prop) : Prop := ∀ c σ H, Ok K c ρ σ H → ∀ Q : List V → Hp → Prop, (∀ vs H2 ds, Ok K c ρ σ H2 → Le c ρ σ H H2 → RepL K (vw c w ρ σ H2) vs ds → R ds → Q vs H2) → ta σ H Q
/-- a new object, for a slot -/
def GN (K : KB) (ρ : List Slot) (te : TE) (R : Slot → Prop) : Prop := ∀ c σ H, Ok K c ρ σ H → ∀ Q : VK, (∀ a H2 s, Ok K c ρ σ H2 → Le c ρ σ H H2 → H a = none → SlR K (hid (fun b => b = a) (sv c ρ σ H2)) H2 s (some (.ref a)) → pa s (some (.ref a)) = some a → R s → Q (.ref a) H2) → te σ H Q
/-- operations on values -/
def Op2 (K : KB) (w1 w2 : Bool) (ρ : List Slot) (r : R2) (x y : Dat) (R : Dat → Prop) : Prop := ∀ c σ H u v, Ok K c ρ σ H → Rep K (vw c w1 ρ σ H) u x → Rep K (vw c w1 ρ σ H) v y → ∀ Q : VK, (∀ z H2 d, Ok K c ρ σ H2 → Le c ρ σ H H2 → Rep K (vw c w2 ρ σ H2) z d → R d → Q z H2) → r u v H Q
def Op1 (K : KB) (w1 w2 : Bool) (ρ : List Slot) (r : V → Hp → VK → Prop) (x : Dat) (R : Dat → Prop) : Prop := ∀ c σ H u, Ok K c ρ σ H → Rep K (vw c w1 ρ σ H) u x → ∀ Q : VK, (∀ z H2 d, Ok K c ρ σ H2 → Le c ρ σ H H2 → Rep K (vw c w2 ρ σ H2) z d → R d → Q z H2) → r u H Q
def OpC (K : KB) (w1 w2 : Bool) (ρ : List Slot) (r : List V → Hp → VK → Prop) (xs : List Dat) (R : Dat → Prop) : Prop := ∀ c σ H us, Ok K c ρ σ H → RepL K (vw c w1 ρ σ H) us xs → ∀ Q : VK, (∀ z H2 d, Ok K c ρ σ H2 → Le c ρ σ H H2 → Rep K (vw c w2 ρ σ H2) z d → R d → Q z H2) → r us H Q
def OpM (K : KB) (w1 w2 : Bool) (ρ : List Slot) (r : V → List V → Hp → VK → Prop) (x : Dat) (xs : List Dat) (R : Dat → Prop) : Prop := ∀ c σ H u us, Ok K c ρ σ H → Rep K (vw c w1 ρ σ H) u x → RepL K (vw c w1 ρ σ H) us xs → ∀ Q : VK, (∀ z H2 d, Ok K c ρ σ H2 → Le c ρ σ H H2 → Rep K (vw c w2 ρ σ H2) z d → R d → Q z H2) → r u us H Q

section
variable {K : KB} {w : Bool} {ρ : List Slot} {ta tb te : TE} {R R' : Dat → Prop}
theorem G.mono (h : G K w ρ te R) (k : ∀ d, R d → R' d) : G K w ρ te R' := fun c σ H o Q q => h c σ H o Q fun v H2 d o2 l r rd => q v H2 d o2 l r (k d rd)
theorem g_weak (h : G K false ρ te R) : G K true ρ te R := fun c σ H o Q q => h c σ H o Q fun v H2 d o2 l r rd => q v H2 d o2 l (r.mono vw_up) rd
theorem g_up (h : G K true ρ te fun d => imm d = true ∧ R d) : G K false ρ te R := fun c σ H o Q q => h c σ H o Q fun v H2 d o2 l r rd => q v H2 d o2 l (o2.imm r rd.1) rd.2
theorem g_var {i : Nat} {d : Dat} (h : ρ[i]? = some (.d d)) (k : R d) : G K w ρ (tVar i) R := fun c σ H o Q q => by
  obtain ⟨v, e, u, rfl, r⟩ := o.get h
  exact ⟨u, e, q u H d o .refl (r.mono vw_up2) k⟩
theorem g_own {i : Nat} {ds : List Dat} (h : ρ[i]? = some (.own ds)) (k : R (.lst ds)) : G K true ρ (tVar i) R := fun c σ H o Q q => by
  obtain ⟨v, e, a, xs, rfl, e1, r⟩ := o.get h
  refine ⟨.ref a, e, q _ H _ o .refl (.lst (hid_some.mpr ⟨?_, e1⟩) (r.mono vw_up)) k⟩
  have hp : Pr ρ σ a := ⟨i, _, _, h, e, rfl⟩
  rintro (z | z)
  · exact o.np a hp z
  · rw [if_pos rfl] at z
    obtain ⟨j, s', v', g1, g2, g3⟩ := z
    have ij := o.inj i j _ _ s' v' a h e rfl g1 g2 (fa_pa g3)
    subst ij
    rw [h] at g1
    rw [e] at g2
    cases g1
    cases g2
    cases g3
theorem g_ownD {i : Nat} {ds : List (DKey × Dat)} (h : ρ[i]? = some (.od ds)) (k : R (.dk ds)) : G K true ρ (tVar i) R := fun c σ H o Q q => by
  obtain ⟨v, e, a, xs, rfl, e1, r⟩ := o.get h
  refine ⟨.ref a, e, q _ H _ o .refl (.dk (hid_some.mpr ⟨?_, e1⟩) (r.mono vw_up)) k⟩
  have hp : Pr ρ σ a := ⟨i, _, _, h, e, rfl⟩
  rintro (z | z)
  · exact o.np a hp z
  · rw [if_pos rfl] at z
    obtain ⟨j, s', v', g1, g2, g3⟩ := z
    have ij := o.inj i j _ _ s' v' a h e rfl g1 g2 (fa_pa g3)
    subst ij
    rw [h] at g1
    rw [e] at g2
    cases g1
    cases g2
    cases g3
theorem g_ownT {i : Nat} {ds : List (List DKey × Dat)} (h : ρ[i]? = some (.ot ds)) (k : R (.dt ds)) : G K true ρ (tVar i) R := fun c σ H o Q q => by
  obtain ⟨v, e, a, xs, rfl, e1, r⟩ := o.get h
  refine ⟨.ref a, e, q _ H _ o .refl (.dt (hid_some.mpr ⟨?_, e1⟩) (r.mono vw_up)) k⟩
  have hp : Pr ρ σ a := ⟨i, _, _, h, e, rfl⟩
  rintro (z | z)
  · exact o.np a hp z
  · rw [if_pos rfl] at z
    obtain ⟨j, s', v', g1, g2, g3⟩ := z
    have ij := o.inj i j _ _ s' v' a h e rfl g1 g2 (fa_pa g3)
    subst ij
    rw [h] at g1
    rw [e] at g2
    cases g1
    cases g2
    cases g3
theorem g_non (k : R .non) : G K w ρ (tC .non) R := fun c σ H o Q q => q _ H _ o .refl .non k
theorem g_bl {b : Bool} (k : R (.bl b)) : G K w ρ (tC (.bl b)) R := fun c σ H o Q q => q _ H _ o .refl (.bl b) k
theorem g_int {i : Int} (k : R (.int i)) : G K w ρ (tC (.int i)) R := fun c σ H o Q q => q _ H _ o .refl (.int i) k
theorem g_str {x : Str} (k : R (.str x.cps.toList)) : G K w ρ (tC (.str x)) R := fun c σ H o Q q => q _ H _ o .refl (by have := Rep.str (K := K) (B := vw c w ρ σ H) x.cps.toList; rw [Array.toArray_toList] at this; exact this) k
theorem g_op {r : R2} (h : G K true ρ ta fun x => G K true ρ tb fun y => Op2 K true w ρ r x y R) : G K w ρ (tOp r ta tb) R := fun c σ H o Q q =>
  h c σ H o _ fun u H1 x o1 l1 r1 h1 => h1 c σ H1 o1 _ fun v H2 y o2 l2 r2 h2 => h2 c σ H2 u v o2 (r1.mono l2.vw) r2 Q fun z H3 d o3 l3 r3 h3 => q z H3 d o3 ((l1.trans l2).trans l3) r3 h3
theorem g_opS {r : R2} (h : G K w ρ ta fun x => G K w ρ tb fun y => Op2 K w w ρ r x y R) : G K w ρ (tOp r ta tb) R := fun c σ H o Q q =>
  h c σ H o _ fun u H1 x o1 l1 r1 h1 => h1 c σ H1 o1 _ fun v H2 y o2 l2 r2 h2 => h2 c σ H2 u v o2 (r1.mono l2.vw) r2 Q fun z H3 d o3 l3 r3 h3 => q z H3 d o3 ((l1.trans l2).trans l3) r3 h3
theorem g_un {r : V → Hp → VK → Prop} (h : G K true ρ ta fun x => Op1 K true w ρ r x R) : G K w ρ (tUn r ta) R := fun c σ H o Q q =>
  h c σ H o _ fun u H1 x o1 l1 r1 h1 => h1 c σ H1 u o1 r1 Q fun z H3 d o3 l3 r3 h3 => q z H3 d o3 (l1.trans l3) r3 h3
theorem ga_nil {RA : List Dat → Prop} (k : RA []) : GA K w ρ tNil RA := fun c σ H o Q q => q _ H _ o .refl .nil k
theorem ga_cons {t : TA} {RA : List Dat → Prop} (h : G K w ρ ta fun x => GA K w ρ t fun xs => RA (x :: xs)) : GA K w ρ (tCons ta t) RA := fun c σ H o Q q =>
  h c σ H o _ fun u H1 x o1 l1 r1 h1 => h1 c σ H1 o1 _ fun v H2 y o2 l2 r2 h2 => q _ H2 _ o2 (l1.trans l2) (.cons (r1.mono l2.vw) r2) h2
theorem g_cb {t : TA} {r : List V → Hp → VK → Prop} (h : GA K true ρ t fun xs => OpC K true w ρ r xs R) : G K w ρ (tCB r t) R := fun c σ H o Q q =>
  h c σ H o _ fun u H1 x o1 l1 r1 h1 => h1 c σ H1 u o1 r1 Q fun z H3 d o3 l3 r3 h3 => q z H3 d o3 (l1.trans l3) r3 h3
theorem g_cbS {t : TA} {r : List V → Hp → VK → Prop} (h : GA K w ρ t fun xs => OpC K w w ρ r xs R) : G K w ρ (tCB r t) R := fun c σ H o Q q =>
  h c σ H o _ fun u H1 x o1 l1 r1 h1 => h1 c σ H1 u o1 r1 Q fun z H3 d o3 l3 r3 h3 => q z H3 d o3 (l1.trans l3) r3 h3
theorem g_tup {t : TA} (h : GA K w ρ t fun xs => xs.length ≤ 100000 ∧ R (.tup xs)) : G K w ρ (tTup t) R := fun c σ H o Q q =>
  h c σ H o _ fun us H1 x o1 l1 r1 h1 => ⟨by rw [r1.length]; exact Nat.le_trans h1.1 (by decide), fun p hp => q _ _ _ (o1.ex (Ex.new hp)) (l1.trans (Ex.new hp).le) (.tup (.inl (.inl (o1.vw_new hp))) (r1.mono (Le.vw (Ex.new hp).le))) h1.2⟩
theorem g_lst {t : TA} (h : GA K w ρ t fun xs => xs.length ≤ 100000 ∧ R (.lst xs)) : G K w ρ (tLst t) R := fun c σ H o Q q =>
  h c σ H o _ fun us H1 x o1 l1 r1 h1 => ⟨by rw [r1.length]; exact Nat.le_trans h1.1 (by decide), fun p hp => q _ _ _ (o1.ex (Ex.new hp)) (l1.trans (Ex.new hp).le) (.lst (o1.vw_new hp) (r1.mono (Le.vw (Ex.new hp).le))) h1.2⟩

/-! ### tests -/
variable {tt uu : TT} {RT : Bool → Prop}
theorem gt_test (h : G K true ρ te fun x => ∃ b, x = .bl b ∧ RT b) : GT K ρ (tTest te) RT := fun c σ H o Q q =>
  h c σ H o _ fun v H2 d o2 l r ⟨b, e, k⟩ => by
    subst e
    cases r
    exact ⟨b, rfl, q b H2 o2 l k⟩
theorem gt_B (h : G K true ρ te fun x => ∃ b, x = .bl b ∧ RT b) : GT K ρ (tB te) RT := fun c σ H o Q q =>
  h c σ H o _ fun v H2 d o2 l r ⟨b, e, k⟩ => by
    subst e
    cases r
    exact ⟨b, rfl, q b H2 o2 l k⟩
theorem gt_and (h : GT K ρ tt fun a => (a = true → GT K ρ uu RT) ∧ (a = false → RT false)) : GT K ρ (tAnd tt uu) RT := fun c σ H o Q q =>
  h c σ H o _ fun b H2 o2 l k => by
    cases b with
    | true =>
      show uu σ H2 Q
      exact k.1 rfl c σ H2 o2 Q fun b H3 o3 l3 k3 => q b H3 o3 (l.trans l3) k3
    | false =>
      show Q false H2
      exact q false H2 o2 l (k.2 rfl)
theorem gt_or (h : GT K ρ tt fun a => (a = true → RT true) ∧ (a = false → GT K ρ uu RT)) : GT K ρ (tOr tt uu) RT := fun c σ H o Q q =>
  h c σ H o _ fun b H2 o2 l k => by
    cases b with
    | true =>
      show Q true H2
      exact q true H2 o2 l (k.1 rfl)
    | false =>
      show uu σ H2 Q
      exact k.2 rfl c σ H2 o2 Q fun b H3 o3 l3 k3 => q b H3 o3 (l.trans l3) k3
theorem gt_not (h : GT K ρ tt fun a => RT (!a)) : GT K ρ (tNot tt) RT := fun c σ H o Q q => h c σ H o _ fun b H2 o2 l k => q _ H2 o2 l k
theorem g_if (h : GT K ρ tt fun b => (b = true → G K w ρ ta R) ∧ (b = false → G K w ρ tb R)) : G K w ρ (tIf tt ta tb) R := fun c σ H o Q q =>
  h c σ H o _ fun b H2 o2 l k => by
    cases b with
    | true =>
      show ta σ H2 Q
      exact k.1 rfl c σ H2 o2 Q fun v H3 d o3 l3 r3 k3 => q v H3 d o3 (l.trans l3) r3 k3
    | false =>
      show tb σ H2 Q
      exact k.2 rfl c σ H2 o2 Q fun v H3 d o3 l3 r3 k3 => q v H3 d o3 (l.trans l3) r3 k3
theorem g_andV (h : G K true ρ ta fun x => ∃ b, x = .bl b ∧ (b = true → G K w ρ tb R) ∧ (b = false → R (.bl false))) : G K w ρ (tAndV ta tb) R := fun c σ H o Q q =>
  h c σ H o _ fun v H2 d o2 l r ⟨b, e, k⟩ => by
    subst e
    cases r
    refine ⟨b, rfl, ?_⟩
    cases b with
    | true =>
      show tb σ H2 Q
      exact k.1 rfl c σ H2 o2 Q fun v H3 d o3 l3 r3 k3 => q v H3 d o3 (l.trans l3) r3 k3
    | false =>
      show Q (.bl false) H2
      exact q _ H2 _ o2 l (.bl false) (k.2 rfl)
theorem g_orV (h : G K true ρ ta fun x => ∃ b, x = .bl b ∧ (b = true → R (.bl true)) ∧ (b = false → G K w ρ tb R)) : G K w ρ (tOrV ta tb) R := fun c σ H o Q q =>
  h c σ H o _ fun v H2 d o2 l r ⟨b, e, k⟩ => by
    subst e
    cases r
    refine ⟨b, rfl, ?_⟩
    cases b with
    | true =>
      show Q (.bl true) H2
      exact q _ H2 _ o2 l (.bl true) (k.1 rfl)
    | false =>
      show tb σ H2 Q
      exact k.2 rfl c σ H2 o2 Q fun v H3 d o3 l3 r3 k3 => q v H3 d o3 (l.trans l3) r3 k3
theorem g_notV (h : G K true ρ ta fun x => ∃ b, x = .bl b ∧ R (.bl (!b))) : G K w ρ (tNotV ta) R := fun c σ H o Q q =>
  h c σ H o _ fun v H2 d o2 l r ⟨b, e, k⟩ => by
    subst e
    cases r
    exact ⟨b, rfl, q _ H2 _ o2 l (.bl _) k⟩
end
end BV

end

section
set_option maxHeartbeats 4000000
namespace BV
open PySem L2

theorem set_get {α : Type} {l : List α} {i j : Nat} {a x : α} (h : (l.set i a)[j]? = some x) : (j = i ∧ x = a ∧ i < l.length) ∨ (j ≠ i ∧ l[j]? = some x) := by
  by_cases e : j = i
  · subst e
    left
    have hl : j < (l.set j a).length := (List.getElem?_eq_some_iff.mp h).1
    rw [List.length_set] at hl
    rw [List.getElem?_set_self hl] at h
    exact ⟨rfl, (Option.some.inj h).symm, hl⟩
  · right
    rw [List.getElem?_set_ne (fun z => e z.symm)] at h
    exact ⟨e, h⟩

section
variable {K : KB} {c : Bc} {w : Bool} {ρ : List Slot} {σ : St} {H H2 : Hp}
theorem sv_P {c c' : Bc} (h : c'.P = c.P) : sv c' ρ σ H = sv c ρ σ H := by
  show hid _ H = hid _ H
  rw [h]
theorem SlR.mono {K : PySem.W.Frag} {B B' : Hp} {s : Slot} {v : Option V} (e : Ex B B') (r : SlR K B H s v) (hh : ∀ a o, pa s v = some a → H a = some o → H2 a = some o) : SlR K B' H2 s v := by
  cases s with
  | no => trivial
  | d x => obtain ⟨u, e1, r⟩ := r; exact ⟨u, e1, r.mono e⟩
  | own ds => obtain ⟨a, xs, rfl, e1, r⟩ := r; exact ⟨a, xs, rfl, hh a _ rfl e1, r.mono e⟩
  | od ds => obtain ⟨a, xs, rfl, e1, r⟩ := r; exact ⟨a, xs, rfl, hh a _ rfl e1, r.mono e⟩
  | ot ds => obtain ⟨a, xs, rfl, e1, r⟩ := r; exact ⟨a, xs, rfl, hh a _ rfl e1, r.mono e⟩
  | src a => obtain ⟨rfl, n, s, cc, e1⟩ := r; exact ⟨rfl, n, s, cc, hh a _ rfl e1⟩
  | ins b C fs => obtain ⟨dx, xs, rfl, e1, r⟩ := r; exact ⟨dx, xs, rfl, hh b _ rfl e1, r.mono e⟩
  | exc a d C fs => obtain ⟨xs, rfl, e1, r⟩ := r; exact ⟨xs, rfl, e d _ e1, r.mono e⟩

theorem Pr.setD {i : Nat} {s : Slot} {v : Option V} (hp : pa s v = none) {a : Addr} (h : Pr (ρ.set i s) (σ.set i v) a) : Pr ρ σ a := by
  obtain ⟨j, s', v', h1, h2, h3⟩ := h
  rcases set_get h1 with ⟨e, e1, _⟩ | ⟨e, e1⟩
  · rcases set_get h2 with ⟨_, e2, _⟩ | ⟨n, _⟩
    · rw [e1, e2, hp] at h3
      cases h3
    · exact absurd e n
  · rcases set_get h2 with ⟨z, _, _⟩ | ⟨_, e2⟩
    · exact absurd z e
    · exact ⟨j, s', v', e1, e2, h3⟩
/-- a slot that keeps nothing private -/
theorem Ok.setD (k : Ok K c ρ σ H) {i : Nat} {s : Slot} {v : Option V} (hp : pa s v = none) (r : SlR K (sv c ρ σ H) H s v) : Ok K c (ρ.set i s) (σ.set i v) H := by
  have e : Ex (sv c ρ σ H) (sv c (ρ.set i s) (σ.set i v) H) := hid_ex fun b o hb e => ⟨fun z => hb (z.imp id fun y => by
    rw [if_neg Bool.false_ne_true] at y ⊢
    exact y.setD hp), e⟩
  refine ⟨⟨by rw [List.length_set, List.length_set]; exact k.len, fun j s' v' h1 h2 => ?_, fun j1 j2 s1 v1 s2 v2 a g1 g2 g3 g4 g5 g6 => ?_, fun a h => k.np a (h.setD hp), k.fr, fun a h => k.xs a (h.setD hp), k.pt⟩, k.xo⟩
  · rcases set_get h1 with ⟨z, e1, _⟩ | ⟨z, e1⟩
    · rcases set_get h2 with ⟨_, e2, _⟩ | ⟨n, _⟩
      · rw [e1, e2]
        exact r.mono e fun _ _ _ h => h
      · exact absurd z n
    · rcases set_get h2 with ⟨y, _, _⟩ | ⟨_, e2⟩
      · exact absurd y z
      · exact (k.sl j s' v' e1 e2).mono e fun _ _ _ h => h
  · have key : ∀ (j : Nat) s1 v1, (ρ.set i s)[j]? = some s1 → (σ.set i v)[j]? = some v1 → pa s1 v1 = some a → ρ[j]? = some s1 ∧ σ[j]? = some v1 := fun j s1 v1 g1 g2 g3 => by
      rcases set_get g1 with ⟨z, e1, _⟩ | ⟨z, e1⟩
      · rcases set_get g2 with ⟨_, e2, _⟩ | ⟨n, _⟩
        · rw [e1, e2, hp] at g3
          cases g3
        · exact absurd z n
      · rcases set_get g2 with ⟨y, _, _⟩ | ⟨_, e2⟩
        · exact absurd y z
        · exact ⟨e1, e2⟩
    obtain ⟨a1, a2⟩ := key j1 s1 v1 g1 g2 g3
    obtain ⟨b1, b2⟩ := key j2 s2 v2 g4 g5 g6
    exact k.inj j1 j2 s1 v1 s2 v2 a a1 a2 g3 b1 b2 g6
/-- a slot for a new object -/
theorem Ok.setN (k : Ok K c ρ σ H) (k2 : Ok K c ρ σ H2) (l : Le c ρ σ H H2) {i : Nat} {s : Slot} {a : Addr} (n : H a = none) (r : SlR K (hid (fun b => b = a) (sv c ρ σ H2)) H2 s (some (.ref a))) (hp : pa s (some (.ref a)) = some a) :
    Ok K c (ρ.set i s) (σ.set i (some (.ref a))) H2 := by
  have npr : ¬ Pr ρ σ a := fun z => by
    obtain ⟨o, e, _⟩ := k.tr z
    rw [n] at e
    cases e
  have back : ∀ {b : Addr}, Pr (ρ.set i s) (σ.set i (some (.ref a))) b → b = a ∨ Pr ρ σ b := fun {b} h => by
    obtain ⟨j, s', v', h1, h2, h3⟩ := h
    rcases set_get h1 with ⟨e, e1, _⟩ | ⟨e, e1⟩
    · rcases set_get h2 with ⟨_, e2, _⟩ | ⟨z, _⟩
      · rw [e1, e2, hp] at h3
        exact .inl (Option.some.inj h3).symm
      · exact absurd e z
    · rcases set_get h2 with ⟨z, _, _⟩ | ⟨_, e2⟩
      · exact absurd z e
      · exact .inr ⟨j, s', v', e1, e2, h3⟩
  have e : Ex (sv c ρ σ H) (sv c (ρ.set i s) (σ.set i (some (.ref a))) H2) := hid_ex fun b o hb e => by
    have hb1 : ¬ c.P b := fun z => hb (.inl z)
    have hb2 : ¬ Pr ρ σ b := fun z => hb (.inr (by rw [if_neg Bool.false_ne_true]; exact z))
    refine ⟨fun z => ?_, l b o (fun z => hb2 z.pr) e⟩
    rcases z with z | z
    · exact hb1 z
    · rw [if_neg Bool.false_ne_true] at z
      rcases back z with q | q
      · rw [q, n] at e
        cases e
      · exact hb2 q
  have ea : Ex (hid (fun b => b = a) (sv c ρ σ H2)) (sv c (ρ.set i s) (σ.set i (some (.ref a))) H2) := fun b o hb => by
    obtain ⟨h1, h2⟩ := hid_some.mp hb
    obtain ⟨h3, h4⟩ := hid_some.mp h2
    refine hid_some.mpr ⟨fun z => ?_, h4⟩
    rcases z with z | z
    · exact h3 (.inl z)
    · rw [if_neg Bool.false_ne_true] at z
      rcases back z with q | q
      · exact h1 q
      · exact h3 (.inr (by rw [if_neg Bool.false_ne_true]; exact q))
  have nP : ¬ c.P a := fun z => by
    obtain ⟨o, e⟩ := k.pt a z
    rw [n] at e
    cases e
  refine ⟨⟨by rw [List.length_set, List.length_set]; exact k.len, fun j s' v' h1 h2 => ?_, fun j1 j2 s1 v1 s2 v2 b g1 g2 g3 g4 g5 g6 => ?_, fun b h => ?_, k2.fr, fun b h => ?_, k2.pt⟩, k.xo⟩
  · rcases set_get h1 with ⟨z, e1, _⟩ | ⟨z, e1⟩
    · rcases set_get h2 with ⟨_, e2, _⟩ | ⟨m, _⟩
      · rw [e1, e2]
        exact r.mono ea fun _ _ _ h => h
      · exact absurd z m
    · rcases set_get h2 with ⟨y, _, _⟩ | ⟨_, e2⟩
      · exact absurd y z
      · by_cases hf : (fa s' v').isSome = true
        · have q := k2.sl j s' v' e1 e2
          cases s' with
          | src x => exact q
          | _ => exact absurd hf (by simp [fa])
        · refine (k.sl j s' v' e1 e2).mono e fun b o hb hh => l b o (fun ⟨j', s'', v'', q1, q2, q3⟩ => ?_) hh
          have ij := k.inj j j' s' v' s'' v'' b e1 e2 hb q1 q2 (fa_pa q3)
          subst ij
          rw [e1] at q1
          rw [e2] at q2
          cases q1
          cases q2
          exact hf (by rw [q3]; rfl)
  · have key : ∀ (j : Nat) s1 v1, (ρ.set i s)[j]? = some s1 → (σ.set i (some (.ref a)))[j]? = some v1 → pa s1 v1 = some b → (j = i ∧ b = a) ∨ (j ≠ i ∧ ρ[j]? = some s1 ∧ σ[j]? = some v1) := fun j s1 v1 g1 g2 g3 => by
      rcases set_get g1 with ⟨z, e1, _⟩ | ⟨z, e1⟩
      · rcases set_get g2 with ⟨_, e2, _⟩ | ⟨m, _⟩
        · rw [e1, e2, hp] at g3
          exact .inl ⟨z, (Option.some.inj g3).symm⟩
        · exact absurd z m
      · rcases set_get g2 with ⟨y, _, _⟩ | ⟨_, e2⟩
        · exact absurd y z
        · exact .inr ⟨z, e1, e2⟩
    rcases key j1 s1 v1 g1 g2 g3 with ⟨a1, a2⟩ | ⟨a0, a1, a2⟩
    · rcases key j2 s2 v2 g4 g5 g6 with ⟨b1, b2⟩ | ⟨b0, b1, b2⟩
      · rw [a1, b1]
      · rw [a2] at g6
        exact absurd ⟨j2, s2, v2, b1, b2, g6⟩ npr
    · rcases key j2 s2 v2 g4 g5 g6 with ⟨b1, b2⟩ | ⟨b0, b1, b2⟩
      · rw [b2] at g3
        exact absurd ⟨j1, s1, v1, a1, a2, g3⟩ npr
      · exact k.inj j1 j2 s1 v1 s2 v2 b a1 a2 g3 b1 b2 g6
  · rcases back h with q | q
    · rw [q]; exact nP
    · exact k.np b q
  · rcases back h with q | q
    · rw [q]
      by_cases hx : c.X a
      · exact .inl hx
      · right
        cases h0 : c.H0 a with
        | none => rfl
        | some o =>
          rw [k.fr a o hx h0] at n
          cases n
    · exact k.xs b q
/-- a private object changed -/
theorem Ok.write (k : Ok K c ρ σ H) {i : Nat} {s s' : Slot} {v : Option V} {a : Addr} {o' : HO} (h : ρ[i]? = some s) (e : σ[i]? = some v) (hp : pa s v = some a) (hp' : pa s' v = some a) (r : SlR K (sv c ρ σ H) (upd H a o') s' v) : Ok K c (ρ.set i s') σ (upd H a o') := by
  have hi : i < ρ.length := (List.getElem?_eq_some_iff.mp h).1
  have hpr : Pr ρ σ a := ⟨i, s, v, h, e, hp⟩
  have back : ∀ {b : Addr}, Pr (ρ.set i s') σ b → Pr ρ σ b := fun {b} ⟨j, s1, v1, h1, h2, h3⟩ => by
    rcases set_get h1 with ⟨z, e1, _⟩ | ⟨z, e1⟩
    · subst z
      rw [e] at h2
      cases h2
      rw [e1, hp'] at h3
      cases h3
      exact hpr
    · exact ⟨j, s1, v1, e1, h2, h3⟩
  have ev : Ex (sv c ρ σ H) (sv c (ρ.set i s') σ (upd H a o')) := hid_ex fun b o hb e => by
    have hb2 : ¬ Pr ρ σ b := fun z => hb (.inr (by rw [if_neg Bool.false_ne_true]; exact z))
    refine ⟨fun z => ?_, by rw [upd_ne (fun z => hb2 (by rw [z]; exact hpr))]; exact e⟩
    rcases z with z | z
    · exact hb (.inl z)
    · rw [if_neg Bool.false_ne_true] at z
      exact hb2 (back z)
  refine ⟨⟨by rw [List.length_set]; exact k.len, fun j s1 v1 h1 h2 => ?_, fun j1 j2 s1 v1 s2 v2 b g1 g2 g3 g4 g5 g6 => ?_, fun b hb => k.np b (back hb), fun b o h1 h2 => ?_, fun b hb => k.xs b (back hb), fun b hb => ?_⟩, k.xo⟩
  · rcases set_get h1 with ⟨z, e1, _⟩ | ⟨z, e1⟩
    · subst z
      rw [e] at h2
      cases h2
      rw [e1]
      exact r.mono ev fun _ _ _ h => h
    · refine (k.sl j s1 v1 e1 h2).mono ev fun b o hb hh => ?_
      rw [upd_ne ?_]
      · exact hh
      · rintro rfl
        exact z (k.inj j i s1 v1 s v b e1 h2 hb h e hp)
  · have key : ∀ (j : Nat) s1 v1, (ρ.set i s')[j]? = some s1 → σ[j]? = some v1 → pa s1 v1 = some b → ∃ s2, ρ[j]? = some s2 ∧ pa s2 v1 = some b := fun j s1 v1 g1 g2 g3 => by
      rcases set_get g1 with ⟨z, e1, _⟩ | ⟨z, e1⟩
      · subst z
        rw [e] at g2
        cases g2
        rw [e1, hp'] at g3
        cases g3
        exact ⟨s, h, hp⟩
      · exact ⟨s1, e1, g3⟩
    obtain ⟨t1, a1, a2⟩ := key j1 s1 v1 g1 g2 g3
    obtain ⟨t2, b1, b2⟩ := key j2 s2 v2 g4 g5 g6
    exact k.inj j1 j2 t1 v1 t2 v2 b a1 g2 a2 b1 g5 b2
  · rw [upd_ne ?_]
    · exact k.fr b o h1 h2
    · rintro rfl
      rcases k.xs b hpr with z | z
      · exact h1 z
      · rw [h2] at z
        cases z
  · by_cases z : b = a
    · exact ⟨o', by rw [z, upd_same]⟩
    · obtain ⟨o, e1⟩ := k.pt b hb
      exact ⟨o, by rw [upd_ne z]; exact e1⟩
/-- what is visible now stays as it is -/
theorem Ok0.fix {K : PySem.W.Frag} (k : Ok0 K c ρ σ H) : ∃ c' : Bc, c'.P = c.P ∧ (∀ a, (c'.X a ∨ c'.H0 a = none) → (c.X a ∨ c.H0 a = none)) ∧ Ok0 K c' ρ σ H ∧ ∀ ρ' σ' H', Ok0 K c' ρ' σ' H' → Ok0 K c ρ' σ' H' ∧ Ex (sv c ρ σ H) (sv c ρ' σ' H') := by
  have hP : ∀ b, Classical.propDecidable (¬ c.P b ∧ ¬ Pr ρ σ b) = Classical.propDecidable (¬ c.P b ∧ ¬ Pr ρ σ b) := fun _ => rfl
  refine ⟨⟨c.P, fun b => c.X b ∧ (c.P b ∨ Pr ρ σ b), fun b => @ite _ (c.P b ∨ Pr ρ σ b) (Classical.propDecidable _) (c.H0 b) (H b)⟩, rfl, fun b hb => ?_, ⟨k.len, k.sl, k.inj, k.np, fun b o h1 h2 => ?_, fun b hb => ?_, k.pt⟩, fun ρ' σ' H' k' => ⟨⟨k'.len, k'.sl, k'.inj, k'.np, fun b o h1 h2 => ?_, fun b hb => ?_, k'.pt⟩, ?_⟩⟩
  · rcases hb with z | z
    · exact .inl z.1
    · change @ite _ (c.P b ∨ Pr ρ σ b) (Classical.propDecidable _) (c.H0 b) (H b) = none at z
      by_cases hq : c.P b ∨ Pr ρ σ b
      · rw [if_pos hq] at z
        exact .inr z
      · rw [if_neg hq] at z
        by_cases hx : c.X b
        · exact .inl hx
        · right
          cases h0 : c.H0 b with
          | none => rfl
          | some o =>
            rw [k.fr b o hx h0] at z
            cases z
  · change @ite _ (c.P b ∨ Pr ρ σ b) (Classical.propDecidable _) (c.H0 b) (H b) = some o at h2
    by_cases hb : c.P b ∨ Pr ρ σ b
    · rw [if_pos hb] at h2
      exact k.fr b o (fun z => h1 ⟨z, hb⟩) h2
    · rw [if_neg hb] at h2
      exact h2
  · show (c.X b ∧ (c.P b ∨ Pr ρ σ b)) ∨ @ite _ (c.P b ∨ Pr ρ σ b) (Classical.propDecidable _) (c.H0 b) (H b) = none
    rw [if_pos (.inr hb)]
    rcases k.xs b hb with z | z
    · exact .inl ⟨z, .inr hb⟩
    · exact .inr z
  · refine k'.fr b o (fun z => h1 z.1) ?_
    show @ite _ (c.P b ∨ Pr ρ σ b) (Classical.propDecidable _) (c.H0 b) (H b) = some o
    by_cases hb : c.P b ∨ Pr ρ σ b
    · rw [if_pos hb]
      exact h2
    · rw [if_neg hb]
      exact k.fr b o h1 h2
  · rcases k'.xs b hb with z | z
    · exact .inl z.1
    · change @ite _ (c.P b ∨ Pr ρ σ b) (Classical.propDecidable _) (c.H0 b) (H b) = none at z
      by_cases hq : c.P b ∨ Pr ρ σ b
      · rw [if_pos hq] at z
        exact .inr z
      · rw [if_neg hq] at z
        by_cases hx : c.X b
        · exact .inl hx
        · right
          cases h0 : c.H0 b with
          | none => rfl
          | some o =>
            rw [k.fr b o hx h0] at z
            cases z
  · refine hid_ex fun b o hb e => ?_
    have hq : ¬ (c.P b ∨ Pr ρ σ b) := fun z => hb (z.imp id fun y => by rw [if_neg Bool.false_ne_true]; exact y)
    have e0 : @ite _ (c.P b ∨ Pr ρ σ b) (Classical.propDecidable _) (c.H0 b) (H b) = some o := by rw [if_neg hq]; exact e
    refine ⟨fun z => ?_, k'.fr b o (fun z => hq z.2) e0⟩
    rcases z with z | z
    · exact hq (.inl z)
    · rw [if_neg Bool.false_ne_true] at z
      rcases k'.xs b z with y | y
      · exact hq y.2
      · change @ite _ (c.P b ∨ Pr ρ σ b) (Classical.propDecidable _) (c.H0 b) (H b) = none at y
        rw [e0] at y
        cases y
theorem Ok.fix (k : Ok K c ρ σ H) : ∃ c' : Bc, c'.P = c.P ∧ (∀ a, (c'.X a ∨ c'.H0 a = none) → (c.X a ∨ c.H0 a = none)) ∧ Ok K c' ρ σ H ∧ ∀ ρ' σ' H', Ok K c' ρ' σ' H' → Ok K c ρ' σ' H' ∧ Ex (sv c ρ σ H) (sv c ρ' σ' H') := by
  obtain ⟨c', h1, h2, h3, h4⟩ := k.toOk0.fix
  exact ⟨c', h1, h2, ⟨h3, k.xo.tr (fun ρ σ H o => (h4 ρ σ H o).1) fun ρ σ H => by rw [sv_P h1]; exact Ex.refl _⟩, fun ρ' σ' H' o => ⟨⟨(h4 ρ' σ' H' o.toOk0).1, k.xo⟩, (h4 ρ' σ' H' o.toOk0).2⟩⟩
end

/-! ### statements -/
abbrev LS := List Slot
/-- what is handed back: data, or a new object -/
inductive Ret where
  | d (x : Dat) | n (s : Slot)
structure Is (K : KB) (c : Bc) (D : Ends) (N : LS → Prop) (R : Ret → LS → Prop) (B C : LS → Prop) : Prop where
  nx : ∀ ρ σ H, Ok K c ρ σ H → N ρ → D.nx σ H
  rt : ∀ ρ σ H v d, Ok K c ρ σ H → Rep K (sv c ρ σ H) v d → R (.d d) ρ → D.rt v H
  rn : ∀ ρ σ H a s, Ok K c ρ σ H → (c.X a ∨ c.H0 a = none) → SlR K (hid (fun b => b = a) (sv c ρ σ H)) H s (some (.ref a)) → pa s (some (.ref a)) = some a → R (.n s) ρ → D.rt (.ref a) H
  bk : ∀ ρ σ H, Ok K c ρ σ H → B ρ → D.bk σ H
  ct : ∀ ρ σ H, Ok K c ρ σ H → C ρ → D.ct σ H
def Run (K : KB) (ρ : LS) (t : TS) (N : LS → Prop) (R : Ret → LS → Prop) (B C : LS → Prop) : Prop := ∀ c D, Is K c D N R B C → ∀ σ H, Ok K c ρ σ H → t D σ H
/-- a target takes a value -/
def GG (K : KB) (ρ : LS) (g : TG) (x : Dat) (k : LS → Prop) : Prop := ∀ c σ H v, Ok K c ρ σ H → Rep K (sv c ρ σ H) v x → ∀ Q : St → Hp → Prop, (∀ ρ' σ', Ok K c ρ' σ' H → Ex (sv c ρ σ H) (sv c ρ' σ' H) → k ρ' → Q σ' H) → g v σ H Q
def GGs (K : KB) (ρ : LS) (g : TGs) (xs : List Dat) (k : LS → Prop) : Prop := ∀ c σ H vs, Ok K c ρ σ H → RepL K (sv c ρ σ H) vs xs → ∀ Q : St → Hp → Prop, (∀ ρ' σ', Ok K c ρ' σ' H → Ex (sv c ρ σ H) (sv c ρ' σ' H) → k ρ' → Q σ' H) → g vs σ H Q
section
variable {K : KB} {ρ : LS} {k : LS → Prop}
theorem ex_setD {c : Bc} {σ : St} {H : Hp} {i : Nat} {s : Slot} {v : Option V} (hp : pa s v = none) : Ex (sv c ρ σ H) (sv c (ρ.set i s) (σ.set i v) H) := hid_ex fun b o hb e => ⟨fun z => hb (z.imp id fun y => by
  rw [if_neg Bool.false_ne_true] at y ⊢
  exact y.setD hp), e⟩
theorem gg_name {i : Nat} {x : Dat} (h : k (ρ.set i (.d x))) : GG K ρ (gName i) x k := fun c σ H v o r Q q => q _ _ (o.setD (s := .d x) (v := some v) rfl ⟨v, rfl, r⟩) (ex_setD (s := .d x) rfl) h
theorem ggs_nil (h : k ρ) : GGs K ρ gNil [] k := fun c σ H vs o r Q q => by
  cases r
  exact ⟨rfl, q ρ σ o (Ex.refl _) h⟩
theorem ggs_cons {g : TG} {gs : TGs} {x : Dat} {xs : List Dat} (h : GG K ρ g x fun ρ1 => GGs K ρ1 gs xs k) : GGs K ρ (gCons g gs) (x :: xs) k := fun c σ H vs o r Q q => by
  cases r with
  | cons r1 r2 => exact ⟨_, _, rfl, h c σ H _ o r1 _ fun ρ1 σ1 o1 e1 h1 => h1 c σ1 H _ o1 (r2.mono e1) Q fun ρ2 σ2 o2 e2 h2 => q ρ2 σ2 o2 (e1.trans e2) h2⟩
theorem gg_tup {n : Nat} {gs : TGs} {xs : List Dat} (hn : xs.length = n) (h : GGs K ρ gs xs k) : GG K ρ (gTup K n gs) (.tup xs) k := fun c σ H v o r Q q => by
  cases r with
  | tup s rl => exact ⟨_, _, rfl, ex_t vw_le s, by rw [rl.length]; exact hn, h c σ H _ o rl Q q⟩
end

section
variable {K : KB} {w : Bool} {ρ : LS} {ta tb te : TE} {t u : TS} {N : LS → Prop} {R : Ret → LS → Prop} {B C : LS → Prop}
theorem run_next (h : N ρ) : Run K ρ tNext N R B C := fun c D is σ H o => is.nx ρ σ H o h
theorem run_brk (h : B ρ) : Run K ρ tBreak N R B C := fun c D is σ H o => is.bk ρ σ H o h
theorem run_cont (h : C ρ) : Run K ρ tCont N R B C := fun c D is σ H o => is.ct ρ σ H o h
theorem run_never (h : False) : Run K ρ t N R B C := h.elim
theorem run_seq (h : Run K ρ t (fun ρ' => Run K ρ' u N R B C) R B C) : Run K ρ (tSeq t u) N R B C := fun c D is σ H o =>
  h c { D with nx := u D } ⟨fun ρ' σ' H' o' k => k c D is σ' H' o', is.rt, is.rn, is.bk, is.ct⟩ σ H o
theorem run_mono {N' : LS → Prop} {R' : Ret → LS → Prop} {B' C' : LS → Prop} (h : Run K ρ t N R B C) (h1 : ∀ ρ, N ρ → N' ρ) (h2 : ∀ d ρ, R d ρ → R' d ρ) (h3 : ∀ ρ, B ρ → B' ρ) (h4 : ∀ ρ, C ρ → C' ρ) : Run K ρ t N' R' B' C' := fun c D is σ H o =>
  h c D ⟨fun ρ σ H o k => is.nx ρ σ H o (h1 ρ k), fun ρ σ H v d o r k => is.rt ρ σ H v d o r (h2 _ ρ k), fun ρ σ H a s o h r hp k => is.rn ρ σ H a s o h r hp (h2 _ ρ k), fun ρ σ H o k => is.bk ρ σ H o (h3 ρ k), fun ρ σ H o k => is.ct ρ σ H o (h4 ρ k)⟩ σ H o
/-- a cut: what follows is shown once, from a word -/
theorem run_cut (M : LS → Prop) (h : Run K ρ t M R B C) (k : ∀ ρ', M ρ' → N ρ') : Run K ρ t N R B C := run_mono h k (fun _ _ h => h) (fun _ h => h) fun _ h => h
theorem run_asg {i : Nat} (h : G K false ρ te fun d => N (ρ.set i (.d d))) : Run K ρ (tAsg te (gName i)) N R B C := fun c D is σ H o =>
  h c σ H o _ fun v H2 d o2 l r k => is.nx _ _ _ (o2.setD (s := .d d) (v := some v) rfl ⟨v, rfl, r⟩) k
theorem run_asgG {g : TG} (h : G K false ρ te fun d => GG K ρ g d N) : Run K ρ (tAsg te g) N R B C := fun c D is σ H o =>
  h c σ H o _ fun v H2 d o2 l r k => k c σ H2 v o2 r D.nx fun ρ' σ' o' _ n => is.nx ρ' σ' H2 o' n
theorem run_asgN {i : Nat} (h : GN K ρ te fun s => N (ρ.set i s)) : Run K ρ (tAsg te (gName i)) N R B C := fun c D is σ H o =>
  h c σ H o _ fun a H2 s o2 l n r hp k => is.nx _ _ _ (o.setN o2 l n r hp) k
theorem run_ret (h : G K false ρ te fun d => R (.d d) ρ) : Run K ρ (tRet te) N R B C := fun c D is σ H o =>
  h c σ H o _ fun v H2 d o2 l r k => is.rt ρ σ H2 v d o2 r k
theorem run_retNew (h : GN K ρ te fun s => R (.n s) ρ) : Run K ρ (tRet te) N R B C := fun c D is σ H o =>
  h c σ H o _ fun a H2 s o2 l n r hp k => is.rn ρ σ H2 a s o2 (by
    by_cases hx : c.X a
    · exact .inl hx
    · right
      cases h0 : c.H0 a with
      | none => rfl
      | some ob => rw [o.fr a ob hx h0] at n; cases n) r hp k
theorem run_retN (h : R (.d .non) ρ) : Run K ρ tRetN N R B C := fun c D is σ H o => is.rt ρ σ H .non .non o .non h
theorem run_drop (h : G K true ρ te fun _ => N ρ) : Run K ρ (tDrop te) N R B C := fun c D is σ H o =>
  h c σ H o _ fun v H2 d o2 l r k => is.nx ρ σ H2 o2 k
theorem run_if {tt : TT} (h : GT K ρ tt fun b => (b = true → Run K ρ t N R B C) ∧ (b = false → Run K ρ u N R B C)) : Run K ρ (tIfS tt t u) N R B C := fun c D is σ H o =>
  h c σ H o _ fun b H2 o2 l k => by
    cases b with
    | true => exact k.1 rfl c D is σ H2 o2
    | false => exact k.2 rfl c D is σ H2 o2
/-- an own list becomes data -/
theorem run_frz {i : Nat} {s : Slot} {x : Dat} (h : ρ[i]? = some s) (hs : (∃ ds, s = .own ds ∧ x = .lst ds) ∨ (∃ ds, s = .od ds ∧ x = .dk ds) ∨ ∃ ds, s = .ot ds ∧ x = .dt ds) (k : Run K (ρ.set i (.d x)) t N R B C) : Run K ρ t N R B C := fun c D is σ H o => by
  refine k c D is σ H ?_
  obtain ⟨v, e, r⟩ := o.get h
  have hσ : σ.set i v = σ := by
    apply List.ext_getElem?
    intro j
    by_cases z : i = j
    · subst z
      rw [List.getElem?_set_self ((List.getElem?_eq_some_iff.mp e).1), e]
    · rw [List.getElem?_set_ne z]
  have np : ∀ a, pa s v = some a → ¬ Pr (ρ.set i (.d x)) σ a := fun a ha ⟨j, s', v', h1, h2, h3⟩ => by
    rcases set_get h1 with ⟨z, e1, _⟩ | ⟨z, e1⟩
    · rw [e1] at h3
      cases h3
    · exact z (o.inj j i s' v' s v a e1 h2 h3 h e ha)
  have e2 : Ex (sv c ρ σ H) (sv c (ρ.set i (.d x)) σ H) := by
    have := ex_setD (ρ := ρ) (c := c) (σ := σ) (H := H) (i := i) (s := .d x) (v := v) rfl
    rw [hσ] at this
    exact this
  -- the slot's own object is seen now
  have seen : ∀ a ob, pa s v = some a → H a = some ob → sv c (ρ.set i (.d x)) σ H a = some ob := fun a ob ha hh => by
    refine hid_some.mpr ⟨fun z => ?_, hh⟩
    rcases z with z | z
    · exact o.np a ⟨i, s, v, h, e, ha⟩ z
    · rw [if_neg Bool.false_ne_true] at z
      exact np a ha z
  have rx : ∃ y, v = some y ∧ Rep K (sv c (ρ.set i (.d x)) σ H) y x := by
    rcases hs with ⟨ds, rfl, rfl⟩ | ⟨ds, rfl, rfl⟩ | ⟨ds, rfl, rfl⟩
    · obtain ⟨a, xs, rfl, e3, r3⟩ := r
      exact ⟨_, rfl, .lst (seen a _ rfl e3) (r3.mono e2)⟩
    · obtain ⟨a, xs, rfl, e3, r3⟩ := r
      exact ⟨_, rfl, .dk (seen a _ rfl e3) (r3.mono e2)⟩
    · obtain ⟨a, xs, rfl, e3, r3⟩ := r
      exact ⟨_, rfl, .dt (seen a _ rfl e3) (r3.mono e2)⟩
  refine ⟨⟨by rw [List.length_set]; exact o.len, fun j s' v' h1 h2 => ?_, fun j1 j2 s1 v1 s2 v2 a g1 g2 g3 g4 g5 g6 => ?_, fun a ha => ?_, o.fr, fun a ha => ?_, o.pt⟩, o.xo⟩
  · rcases set_get h1 with ⟨z, e1, _⟩ | ⟨z, e1⟩
    · subst z
      rw [e] at h2
      cases h2
      rw [e1]
      exact rx
    · exact (o.sl j s' v' e1 h2).mono e2 fun _ _ _ h => h
  · have key : ∀ (j : Nat) s1 v1, (ρ.set i (.d x))[j]? = some s1 → pa s1 v1 = some a → ρ[j]? = some s1 := fun j s1 v1 g1 g3 => by
      rcases set_get g1 with ⟨z, e1, _⟩ | ⟨z, e1⟩
      · rw [e1] at g3
        cases g3
      · exact e1
    exact o.inj j1 j2 s1 v1 s2 v2 a (key j1 s1 v1 g1 g3) g2 g3 (key j2 s2 v2 g4 g6) g5 g6
  · have := ha
    rw [← hσ] at this
    exact o.np a (this.setD rfl)
  · have := ha
    rw [← hσ] at this
    exact o.xs a (this.setD rfl)

/-! ### loops -/
theorem run_while {tc : TT} {tb : TS} (W : Nat → LS → Prop) (m0 : Nat) (h0 : W m0 ρ)
    (hs : ∀ m ρ', W m ρ' → GT K ρ' tc fun b => (b = true → Run K ρ' tb (fun ρ2 => ∃ m', m' < m ∧ W m' ρ2) R N fun ρ2 => ∃ m', m' < m ∧ W m' ρ2) ∧ (b = false → N ρ')) : Run K ρ (tWhile tc tb) N R B C := fun c D is σ H o => by
  refine ⟨fun m σ H => ∃ ρ', Ok K c ρ' σ H ∧ W m ρ', ⟨m0, ρ, o, h0⟩, fun m σ H ⟨ρ', o', w'⟩ => hs m ρ' w' c σ H o' _ fun b H1 o1 l k => ?_⟩
  cases b with
  | true =>
    rw [if_pos rfl]
    exact ⟨fun σ2 H2 => ∃ m', m' < m ∧ ∃ ρ2, Ok K c ρ2 σ2 H2 ∧ W m' ρ2, fun σ2 H2 h => h, k.1 rfl c { D with nx := fun σ2 H2 => ∃ m', m' < m ∧ ∃ ρ2, Ok K c ρ2 σ2 H2 ∧ W m' ρ2, ct := fun σ2 H2 => ∃ m', m' < m ∧ ∃ ρ2, Ok K c ρ2 σ2 H2 ∧ W m' ρ2, bk := D.nx } ⟨fun ρ2 σ2 H2 o2 ⟨m', hm, w2⟩ => ⟨m', hm, ρ2, o2, w2⟩, is.rt, is.rn, is.nx, fun ρ2 σ2 H2 o2 ⟨m', hm, w2⟩ => ⟨m', hm, ρ2, o2, w2⟩⟩ σ H1 o1⟩
  | false =>
    rw [if_neg Bool.false_ne_true]
    exact is.nx ρ' σ H1 o1 (k.2 rfl)
end
end BV

end

section
set_option maxHeartbeats 4000000
namespace BV
open PySem L2

abbrev S (w : List Nat) : Str := ⟨w.toArray⟩
theorem S_len (w : List Nat) : (S w).length = w.length := by
  show w.toArray.size = w.length
  simp
theorem S_list (w : List Nat) : (S w).cps.toList = w := by simp
theorem S_inj {a b : List Nat} (h : S a = S b) : a = b := by
  have := congrArg (fun s => s.cps.toList) h
  simpa using this
theorem S_append (a b : List Nat) : S a ++ S b = S (a ++ b) := by
  show (⟨a.toArray ++ b.toArray⟩ : Str) = ⟨(a ++ b).toArray⟩
  simp
theorem S_dec (a b : List Nat) : decide (V.str (S a) = V.str (S b)) = decide (a = b) := by
  by_cases h : a = b
  · rw [decide_eq_true h, decide_eq_true (by rw [h])]
  · rw [decide_eq_false h, decide_eq_false fun e => h (S_inj (V.str.inj e))]

section
variable {K : KB} {w w1 : Bool} {ρ : LS} {ta tb tc te : TE} {R : Dat → Prop}

/-! ### operators on ints -/
theorem o2_I0 {f : Int → Int → Int} {i j : Int} (k : R (.int (f i j))) : Op2 K w1 w ρ (rI0 fun i j => V.int (f i j)) (.int i) (.int j) R := fun c σ H u v o r1 r2 Q q => by
  cases r1; cases r2
  exact ⟨i, j, rfl, rfl, q _ H _ o .refl (.int _) k⟩
theorem o2_I0b {f : Int → Int → Bool} {i j : Int} (k : R (.bl (f i j))) : Op2 K w1 w ρ (rI0 fun i j => V.bl (f i j)) (.int i) (.int j) R := fun c σ H u v o r1 r2 Q q => by
  cases r1; cases r2
  exact ⟨i, j, rfl, rfl, q _ H _ o .refl (.bl _) k⟩
theorem o2_I {C : Int → Int → Prop} {f : Int → Int → Int} {i j : Int} (hc : C i j) (k : R (.int (f i j))) : Op2 K w1 w ρ (rI C fun i j => V.int (f i j)) (.int i) (.int j) R := fun c σ H u v o r1 r2 Q q => by
  cases r1; cases r2
  exact ⟨i, j, rfl, rfl, hc, q _ H _ o .refl (.int _) k⟩
theorem o1_U {f : Int → Int} {i : Int} (k : R (.int (f i))) : Op1 K w1 w ρ (rU fun i => V.int (f i)) (.int i) R := fun c σ H u o r1 Q q => by
  cases r1
  exact ⟨i, rfl, q _ H _ o .refl (.int _) k⟩

/-! ### texts -/
def rAddS : R2 := fun x y H Q => ∃ i j, x = .str i ∧ y = .str j ∧ i.length + j.length ≤ sizeLine ∧ Q (.str (i ++ j)) H
theorem big {n : Nat} (h : n ≤ 1000000) : n ≤ sizeLine := Nat.le_trans h (by decide)
theorem bigL {n : Nat} (h : n < 1000000) : n < sizeLine := Nat.lt_of_lt_of_le h (by decide)
theorem o2_addS {a b : List Nat} (hl : a.length + b.length ≤ 1000000) (k : R (.str (a ++ b))) : Op2 K w1 w ρ rAddS (.str a) (.str b) R := fun c σ H u v o r1 r2 Q q => by
  cases r1; cases r2
  refine ⟨S a, S b, rfl, rfl, by rw [S_len, S_len]; exact big hl, ?_⟩
  rw [S_append]
  exact q _ H _ o .refl (.str _) k
def rLtS : R2 := fun x y H Q => ∃ i j, x = .str i ∧ y = .str j ∧ Q (.bl (decide (i.cps.toList < j.cps.toList))) H
theorem o2_ltS {a b : List Nat} (k : R (.bl (decide (a < b)))) : Op2 K w1 w ρ rLtS (.str a) (.str b) R := fun c σ H u v o r1 r2 Q q => by
  cases r1; cases r2
  refine ⟨S a, S b, rfl, rfl, ?_⟩
  rw [S_list, S_list]
  exact q _ H _ o .refl (.bl _) k
def rGeS : R2 := fun x y H Q => ∃ i j, x = .str i ∧ y = .str j ∧ Q (.bl (!decide (i.cps.toList < j.cps.toList))) H
theorem o2_geS {a b : List Nat} (k : R (.bl (!decide (a < b)))) : Op2 K w1 w ρ rGeS (.str a) (.str b) R := fun c σ H u v o r1 r2 Q q => by
  cases r1; cases r2
  refine ⟨S a, S b, rfl, rfl, ?_⟩
  rw [S_list, S_list]
  exact q _ H _ o .refl (.bl _) k
def rInS (neg : Bool) : R2 := fun x y H Q => ∃ (c : Nat) (z : Str), x = .str ⟨#[c]⟩ ∧ y = .str z ∧ Q (.bl (if neg then !decide (c ∈ z.cps.toList) else decide (c ∈ z.cps.toList))) H
theorem op_inS {X : Cx} : OpR X (compareOp .In) (rInS false) := op_in_sign
theorem op_notInS {X : Cx} : OpR X (compareOp .NotIn) (rInS true) := op_notIn_sign
theorem o2_inS {neg : Bool} {n : Nat} {b : List Nat} (k : R (.bl (if neg then !decide (n ∈ b) else decide (n ∈ b)))) : Op2 K w1 w ρ (rInS neg) (.str [n]) (.str b) R := fun c σ H u v o r1 r2 Q q => by
  cases r1; cases r2
  refine ⟨n, S b, rfl, rfl, ?_⟩
  rw [S_list]
  exact q _ H _ o .refl (.bl _) k
/-- a text in a text -/
def occ (i j : List Nat) : Bool := !(Builtin.Str.occurrences (S j) (S i) 0 (S j).length 1).isEmpty
def rSub (neg : Bool) : R2 := fun x y H Q => ∃ i j, x = .str i ∧ y = .str j ∧ Q (.bl (if neg then !(!(Builtin.Str.occurrences j i 0 j.length 1).isEmpty) else !(Builtin.Str.occurrences j i 0 j.length 1).isEmpty)) H
theorem op_sub_ {X : Cx} : OpR X (compareOp .In) (rSub false) := op_in_str
theorem op_notSub {X : Cx} : OpR X (compareOp .NotIn) (rSub true) := op_notin_str
theorem o2_sub {neg : Bool} {a b : List Nat} (k : R (.bl (if neg then !occ a b else occ a b))) : Op2 K w1 w ρ (rSub neg) (.str a) (.str b) R := fun c σ H u v o r1 r2 Q q => by
  cases r1; cases r2
  exact ⟨S a, S b, rfl, rfl, q _ H _ o .refl (.bl _) k⟩
theorem o2_ixS {s : List Nat} {i : Int} {n : Nat} (hl : s.length ≤ 1000000) (h : atI s i = some n) (k : R (.str [n])) : Op2 K w1 w ρ rIxS (.str s) (.int i) R := fun c σ H u v o r1 r2 Q q => by
  cases r1; cases r2
  exact ⟨S s, i, n, rfl, rfl, by rw [S_len]; exact big hl, by rw [S_list]; exact h, q _ H _ o .refl (.str [n]) k⟩
/-- a slice -/
def cut {α : Type} (xs : List α) (lo hi : Option Int) : List α := (xs.drop (HT.sIx xs.length 0 lo)).take (HT.sIx xs.length xs.length hi - HT.sIx xs.length 0 lo)
theorem cutS_S (s : List Nat) (lo hi : Option Int) : cutS (S s) lo hi = S (cut s lo hi) := by
  unfold cutS cut
  rw [S_list, S_len]
def GO (K : KB) (ρ : LS) (to : TO) (RO : Option Int → Prop) : Prop := ∀ c σ H, Ok K c ρ σ H → ∀ Q : Option Int → Hp → Prop, (∀ o H2, Ok K c ρ σ H2 → Le c ρ σ H H2 → RO o → Q o H2) → to σ H Q
theorem go_no {RO : Option Int → Prop} (k : RO none) : GO K ρ tNoPart RO := fun c σ H o Q q => q none H o .refl k
theorem go_some {RO : Option Int → Prop} (h : G K true ρ te fun x => ∃ i, x = .int i ∧ RO (some i)) : GO K ρ (tPart te) RO := fun c σ H o Q q =>
  h c σ H o _ fun v H2 d o2 l r ⟨i, e, k⟩ => by
    subst e
    cases r
    exact ⟨i, rfl, q _ H2 o2 l k⟩
theorem g_slS {tl th : TO} (h : G K true ρ te fun x => ∃ s, x = .str s ∧ s.length ≤ 1000000 ∧ GO K ρ tl fun lo => GO K ρ th fun hi => R (.str (cut s lo hi))) : G K w ρ (tSl rSlS te tl th) R := fun c σ H o Q q =>
  h c σ H o _ fun v H2 d o2 l r ⟨s, e, hs, k⟩ => by
    subst e
    cases r
    refine k c σ H2 o2 _ fun lo H3 o3 l3 k3 => k3 c σ H3 o3 _ fun hi H4 o4 l4 k4 => ?_
    refine ⟨S s, rfl, by rw [S_len]; exact big hs, ?_⟩
    rw [cutS_S]
    exact q _ H4 _ o4 ((l.trans l3).trans l4) (.str _) k4
theorem cutV_rep {B : Hp} {xs : List V} {ds : List Dat} (r : RepL K B xs ds) (lo hi : Option Int) : RepL K B (cutV xs lo hi) (cut ds lo hi) := by
  unfold cutV cut
  rw [r.length]
  exact (r.drop _).take _
/-- xs[lo:hi], xs a list that is data -/
theorem g_slL {tl th : TO} (h : G K w ρ te fun x => ∃ s, x = .lst s ∧ GO K ρ tl fun lo => GO K ρ th fun hi => R (.lst (cut s lo hi))) : G K w ρ (tSl (rSlL K) te tl th) R := fun c σ H o Q q =>
  h c σ H o _ fun v H2 d o2 l r ⟨s, e, k⟩ => by
    subst e
    cases r with
    | @lst a xs _ ha rl =>
    refine k c σ H2 o2 _ fun lo H3 o3 l3 k3 => k3 c σ H3 o3 _ fun hi H4 o4 l4 k4 => ?_
    have e4 := (l3.trans l4).vw (w := w)
    refine ⟨a, xs, rfl, .inl (.inl (vw_le a _ (e4 a _ ha))), fun p hp => q _ _ _ (o4.ex (Ex.new hp)) (((l.trans l3).trans l4).trans (Ex.new hp).le) (.lst (o4.vw_new hp) ?_) k4⟩
    exact (cutV_rep (rl.mono e4) lo hi).mono (Le.vw (Ex.new hp).le)
/-- the script's slice -/
theorem g_slScr {tl th : TO} (h : G K w ρ te fun x => ∃ s, x = .scr s ∧ GO K ρ tl fun lo => GO K ρ th fun hi => R (.lst (cut (s.map Dat.int) lo hi))) : G K w ρ (tSl (rSlL K) te tl th) R := fun c σ H o Q q =>
  h c σ H o _ fun v H2 d o2 l r ⟨s, e, k⟩ => by
    subst e
    cases r with
    | @scr a ns ha =>
    refine k c σ H2 o2 _ fun lo H3 o3 l3 k3 => k3 c σ H3 o3 _ fun hi H4 o4 l4 k4 => ?_
    have e4 := (l3.trans l4).vw (w := w)
    refine ⟨a, _, rfl, ex_l vw_le (ex_l e4 ha), fun p hp => q _ _ _ (o4.ex (Ex.new hp)) (((l.trans l3).trans l4).trans (Ex.new hp).le) (.lst (o4.vw_new hp) ?_) k4⟩
    exact cutV_rep (RepL.ofInts s) lo hi
/-- t[lo:hi], not the whole -/
theorem g_slT {tl th : TO} (h : G K w ρ te fun x => ∃ s, x = .tup s ∧ GO K ρ tl fun lo => GO K ρ th fun hi => ¬ (HT.sIx s.length 0 lo = 0 ∧ HT.sIx s.length s.length hi = s.length) ∧ R (.tup (cut s lo hi))) : G K w ρ (tSl (rSlT K) te tl th) R := fun c σ H o Q q =>
  h c σ H o _ fun v H2 d o2 l r ⟨s, e, k⟩ => by
    subst e
    cases r with
    | @tup a xs _ ha rl =>
    refine k c σ H2 o2 _ fun lo H3 o3 l3 k3 => k3 c σ H3 o3 _ fun hi H4 o4 l4 k4 => ?_
    have e4 := (l3.trans l4).vw (w := w)
    refine ⟨a, xs, rfl, ex_t vw_le (ex_t e4 ha), by rw [rl.length]; exact k4.1, fun p hp => q _ _ _ (o4.ex (Ex.new hp)) (((l.trans l3).trans l4).trans (Ex.new hp).le) (.tup (.inl (.inl (o4.vw_new hp))) ?_) k4.2⟩
    exact (cutV_rep (rl.mono e4) lo hi).mono (Le.vw (Ex.new hp).le)

/-! ### subscripts -/
theorem o2_ixL {ds : List Dat} {i : Int} {d : Dat} (h : atI ds i = some d) (k : R d) : Op2 K w w ρ (rIxL K) (.lst ds) (.int i) R := fun c σ H u v o r1 r2 Q q => by
  cases r2
  cases r1 with
  | @lst a xs _ ha rl =>
  obtain ⟨j, hj, hd⟩ := Option.bind_eq_some_iff.mp h
  obtain ⟨y, hy, ry⟩ := rl.get hd
  refine ⟨a, xs, i, y, rfl, rfl, .inl (.inl (vw_le a _ ha)), ?_, q _ H _ o .refl ry k⟩
  unfold atI
  rw [rl.length, hj]
  exact hy
theorem o2_ixScr {ns : List Int} {i n : Int} (h : atI ns i = some n) (k : R (.int n)) : Op2 K w1 w ρ (rIxL K) (.scr ns) (.int i) R := fun c σ H u v o r1 r2 Q q => by
  cases r2
  cases r1 with
  | @scr a _ ha =>
  obtain ⟨j, hj, hd⟩ := Option.bind_eq_some_iff.mp h
  refine ⟨a, _, i, .int n, rfl, rfl, ex_l vw_le ha, ?_, q _ H _ o .refl (.int _) k⟩
  unfold atI
  rw [List.length_map, hj]
  show (ns.map V.int)[j]? = _
  rw [List.getElem?_map, hd]
  rfl
theorem o2_ixT {ds : List Dat} {i : Int} {d : Dat} (h : atI ds i = some d) (k : R d) : Op2 K w w ρ (rIxT K) (.tup ds) (.int i) R := fun c σ H u v o r1 r2 Q q => by
  cases r2
  cases r1 with
  | @tup a xs _ ha rl =>
  obtain ⟨j, hj, hd⟩ := Option.bind_eq_some_iff.mp h
  obtain ⟨y, hy, ry⟩ := rl.get hd
  refine ⟨a, xs, i, y, rfl, rfl, ex_t vw_le ha, ?_, q _ H _ o .refl ry k⟩
  unfold atI
  rw [rl.length, hj]
  exact hy
/-- an own list's item -/
theorem g_ixO {i : Nat} {ds : List Dat} (he : ρ[i]? = some (.own ds)) (h : G K true ρ tb fun y => ∃ k d, y = .int k ∧ atI ds k = some d ∧ R d) : G K w ρ (tOp (rIxL K) (tVar i) tb) R := fun c σ H o Q q => by
  obtain ⟨v, e, a, xs, rfl, ha, rl⟩ := o.get he
  refine ⟨_, e, h c σ H o _ fun v H2 d o2 l r ⟨k, d', e2, hk, kr⟩ => ?_⟩
  subst e2
  cases r
  obtain ⟨v', e', a', xs', q1, ha', rl'⟩ := o2.get he
  rw [e] at e'
  cases e'
  cases q1
  obtain ⟨j, hj, hd⟩ := Option.bind_eq_some_iff.mp hk
  obtain ⟨y, hy, ry⟩ := rl'.get hd
  refine ⟨a, xs', k, y, rfl, rfl, .inl (.inl ha'), ?_, q _ H2 _ o2 l (ry.mono vw_up2) kr⟩
  unfold atI
  rw [rl'.length, hj]
  exact hy

/-! ### equality -/
theorem o2_eqI {i j : Int} (k : R (.bl (decide (i = j)))) : Op2 K w1 w ρ rEq (.int i) (.int j) R := fun c σ H u v o r1 r2 Q q => by
  cases r1; cases r2
  refine ⟨rfl, ?_⟩
  have : decide (V.int i = V.int j) = decide (i = j) := by
    by_cases h : i = j
    · rw [decide_eq_true h, decide_eq_true (by rw [h])]
    · rw [decide_eq_false h, decide_eq_false fun e => h (V.int.inj e)]
  rw [this]
  exact q _ H _ o .refl (.bl _) k
theorem o2_neI {i j : Int} (k : R (.bl (!decide (i = j)))) : Op2 K w1 w ρ rNe (.int i) (.int j) R := fun c σ H u v o r1 r2 Q q => by
  cases r1; cases r2
  refine ⟨rfl, ?_⟩
  have : decide (V.int i = V.int j) = decide (i = j) := by
    by_cases h : i = j
    · rw [decide_eq_true h, decide_eq_true (by rw [h])]
    · rw [decide_eq_false h, decide_eq_false fun e => h (V.int.inj e)]
  rw [this]
  exact q _ H _ o .refl (.bl _) k
theorem o2_eqS {i j : List Nat} (k : R (.bl (decide (i = j)))) : Op2 K w1 w ρ rEq (.str i) (.str j) R := fun c σ H u v o r1 r2 Q q => by
  cases r1; cases r2
  refine ⟨rfl, ?_⟩
  rw [S_dec]
  exact q _ H _ o .refl (.bl _) k
theorem o2_neS {i j : List Nat} (k : R (.bl (!decide (i = j)))) : Op2 K w1 w ρ rNe (.str i) (.str j) R := fun c σ H u v o r1 r2 Q q => by
  cases r1; cases r2
  refine ⟨rfl, ?_⟩
  rw [S_dec]
  exact q _ H _ o .refl (.bl _) k
theorem o2_eqB {i j : Bool} (k : R (.bl (decide (i = j)))) : Op2 K w1 w ρ rEq (.bl i) (.bl j) R := fun c σ H u v o r1 r2 Q q => by
  cases r1; cases r2
  refine ⟨rfl, ?_⟩
  have : decide (V.bl i = V.bl j) = decide (i = j) := by cases i <;> cases j <;> rfl
  rw [this]
  exact q _ H _ o .refl (.bl _) k
theorem o2_neB {i j : Bool} (k : R (.bl (!decide (i = j)))) : Op2 K w1 w ρ rNe (.bl i) (.bl j) R := fun c σ H u v o r1 r2 Q q => by
  cases r1; cases r2
  refine ⟨rfl, ?_⟩
  have : decide (V.bl i = V.bl j) = decide (i = j) := by cases i <;> cases j <;> rfl
  rw [this]
  exact q _ H _ o .refl (.bl _) k
theorem o2_neSN {i : List Nat} (k : R (.bl true)) : Op2 K w1 w ρ rNe (.str i) .non R := fun c σ H u v o r1 r2 Q q => by
  cases r1; cases r2
  exact ⟨rfl, q _ H _ o .refl (.bl _) k⟩
mutual
def toP : Dat → PyData
  | .bl b => .bool b
  | .int i => .int i
  | .str w => .str (S w)
  | .tup ds => .tuple (toPs ds)
  | .lst ds => .list (toPs ds)
  | _ => .none
def toPs : List Dat → List PyData
  | [] => []
  | d :: ds => toP d :: toPs ds
end
mutual
/-- plain data -/
def pln : Dat → Bool
  | .non => true
  | .bl _ => true
  | .int _ => true
  | .str _ => true
  | .tup ds => plnL ds
  | .lst ds => plnL ds
  | _ => false
def plnL : List Dat → Bool
  | [] => true
  | d :: ds => pln d && plnL ds
end
theorem dp_of {B : Hp} : ∀ v d, Rep K B v d → pln d = true → Dp K B v (toP d) := fun v d h =>
  Rep.rec (motive_1 := fun v d _ => pln d = true → Dp K B v (toP d)) (motive_2 := fun v d _ => plnL d = true → DpAll K B v (toPs d)) (motive_3 := fun v d _ => True) (motive_4 := fun v d _ => True) (motive_5 := fun v d _ => True)
    (fun _ => .non) (fun b _ => .bl b) (fun i _ => .int i) (fun x _ => .str _) (fun s _ i hi => .tup s (i hi)) (fun s _ i hi => .lst (.inl (.inl s)) (i hi)) (fun s hi => by cases hi) (fun s _ i hi => by cases hi) (fun s _ i hi => by cases hi) (fun s _ i hi => by cases hi) (fun s _ i hi => by cases hi) (fun _ hi => by cases hi)
    (fun _ => .nil) (fun _ _ i j hi => by
      unfold plnL at hi
      rw [Bool.and_eq_true] at hi
      exact .cons (i hi.1) (j hi.2)) trivial (fun _ _ _ _ => trivial) trivial (fun _ _ _ _ => trivial) trivial (fun _ _ _ _ => trivial) h
theorem Dp.monoL {B B' : Hp} (e : Ex B B') : ∀ v d, Dp K B v d → Dp K B' v d := fun v d h =>
  Dp.rec (motive_1 := fun v d _ => Dp K B' v d) (motive_2 := fun v d _ => DpAll K B' v d) .non .bl .int .str (fun s _ i => .lst (ex_l e s) i) (fun s _ i => .tup (ex_t e s) i) .nil (fun _ _ i j => .cons i j) h
/-- == of data -/
def deq (x y : Dat) : Bool := PyData.eqv (toP x) (toP y)
def shp (x : Dat) : Bool := pln x && SeqAt.shaped (toP x)
theorem o2_eqD {x y : Dat} (hx : shp x = true) (hy : shp y = true) (k : R (.bl (deq x y))) : Op2 K w1 w ρ (rEqD K) x y R := fun c σ H u v o r1 r2 Q q => by
  unfold shp at hx hy
  rw [Bool.and_eq_true] at hx hy
  exact ⟨toP x, toP y, Dp.monoL vw_le _ _ (dp_of _ _ r1 hx.1), Dp.monoL vw_le _ _ (dp_of _ _ r2 hy.1), hx.2, hy.2, q _ H _ o .refl (.bl _) k⟩
theorem o2_neD {x y : Dat} (hx : shp x = true) (hy : shp y = true) (k : R (.bl (!deq x y))) : Op2 K w1 w ρ (rNeD K) x y R := fun c σ H u v o r1 r2 Q q => by
  unfold shp at hx hy
  rw [Bool.and_eq_true] at hx hy
  exact ⟨toP x, toP y, Dp.monoL vw_le _ _ (dp_of _ _ r1 hx.1), Dp.monoL vw_le _ _ (dp_of _ _ r2 hy.1), hx.2, hy.2, q _ H _ o .refl (.bl _) k⟩
/-- in a list of data -/
theorem o2_inD {x : Dat} {ds : List Dat} (hx : shp x = true) (hy : shp (.lst ds) = true) (k : R (.bl ((toPs ds).any fun z => PyData.eqv z (toP x)))) : Op2 K w1 w ρ (rInD K) x (.lst ds) R := fun c σ H u v o r1 r2 Q q => by
  unfold shp at hx hy
  rw [Bool.and_eq_true] at hx hy
  exact ⟨toP x, toPs ds, Dp.monoL vw_le _ _ (dp_of _ _ r1 hx.1), Dp.monoL vw_le _ _ (dp_of _ _ r2 hy.1), hx.2, hy.2, q _ H _ o .refl (.bl _) k⟩
theorem o2_notInD {x : Dat} {ds : List Dat} (hx : shp x = true) (hy : shp (.lst ds) = true) (k : R (.bl (!(toPs ds).any fun z => PyData.eqv z (toP x)))) : Op2 K w1 w ρ (rNotInD K) x (.lst ds) R := fun c σ H u v o r1 r2 Q q => by
  unfold shp at hx hy
  rw [Bool.and_eq_true] at hx hy
  exact ⟨toP x, toPs ds, Dp.monoL vw_le _ _ (dp_of _ _ r1 hx.1), Dp.monoL vw_le _ _ (dp_of _ _ r2 hy.1), hx.2, hy.2, q _ H _ o .refl (.bl _) k⟩

/-! ### is None -/
def rIsN (neg : Bool) : R2 := fun x y H Q => y = .non ∧ Q (.bl (if neg then !decide (x = .non) else decide (x = .non))) H
theorem op_isN_ {X : Cx} : OpR X (compareOp .Is) (rIsN false) := op_isN
theorem op_notN_ {X : Cx} : OpR X (compareOp .IsNot) (rIsN true) := op_notN
def isNon : Dat → Bool
  | .non => true
  | _ => false
theorem o2_isN {neg : Bool} {x : Dat} (hx : ∀ v, x ≠ .oth v) (k : R (.bl (if neg then !isNon x else isNon x))) : Op2 K w1 w ρ (rIsN neg) x .non R := fun c σ H u v o r1 r2 Q q => by
  cases r2
  refine ⟨rfl, ?_⟩
  have : decide (u = V.non) = isNon x := by
    cases r1 <;> first | rfl | exact absurd rfl (hx _)
  rw [this]
  exact q _ H _ o .refl (.bl _) k

/-! ### lists made -/
theorem o2_cat {xs ys : List Dat} (hl : xs.length + ys.length ≤ 1000000) (k : R (.lst (xs ++ ys))) : Op2 K w w ρ rCat (.lst xs) (.lst ys) R := fun c σ H u v o r1 r2 Q q => by
  cases r1 with
  | @lst a us _ ha ra =>
  cases r2 with
  | @lst b vs _ hb rb =>
  exact ⟨a, b, us, vs, rfl, rfl, vw_le a _ ha, vw_le b _ hb, by rw [ra.length, rb.length]; exact big hl, fun p hp => q _ _ _ (o.ex (Ex.new hp)) (Ex.new hp).le (.lst (o.vw_new hp) ((ra.append rb).mono (Le.vw (Ex.new hp).le))) k⟩
theorem rep_flat {α : Type} {xs : List α} : ∀ n : Nat, (List.replicate n xs).flatten.length = n * xs.length
  | 0 => by simp
  | n + 1 => by rw [List.replicate_succ, List.flatten_cons, List.length_append, rep_flat n, Nat.succ_mul, Nat.add_comm]
end
end BV

end

section
set_option maxHeartbeats 4000000
namespace BV
open PySem L2

/-- what is walked: items ds -/
def GI (K : KB) (w : Bool) (ρ : LS) (wi : TI) (R : List Dat → Prop) : Prop := ∀ c σ H, Ok K c ρ σ H → ∀ RK : It → Hp → Prop,
  (∀ J H2 n G Y ds, Ok K c ρ σ H2 → Le c ρ σ H H2 → Walk J n G Y → ds.length = n → (∀ H3, Ex (vw c w ρ σ H2) H3 → G H3) →
    (∀ i H3 x H' c' ρ' σ', i < n → Ok K c' ρ' σ' H3 → Ex (vw c w ρ σ H2) (sv c' ρ' σ' H3) → Y i H3 x H' → ∃ d, ds[i]? = some d ∧ Ok K c' ρ' σ' H' ∧ Ex H3 H' ∧ Rep K (sv c' ρ' σ' H') x d) → R ds → RK J H2) → wi σ H RK
section
variable {K : KB} {w : Bool} {ρ : LS} {ta te tl : TE} {RI : List Dat → Prop}
theorem gi_list (h : G K w ρ tl fun d => ∃ ds, d = .lst ds ∧ RI ds) : GI K w ρ (iList K tl) RI := fun c σ H o RK q =>
  h c σ H o _ fun v H2 d o2 l r ⟨ds, e, k⟩ => by
    subst e
    cases r with
    | @lst a xs _ ha rl =>
    refine ⟨a, rfl, ⟨xs, .inl (.inl (vw_le a _ ha))⟩, q _ H2 _ _ _ ds o2 l (walk_list (xs := xs)) rl.length.symm (fun H3 e => .inl (.inl (e a _ ha))) (fun i H3 x H' c' ρ' σ' hi o3 e y => ?_) k⟩
    obtain ⟨y1, y2⟩ := y
    subst y1
    obtain ⟨d, e1, r1⟩ := rl.get' y2
    exact ⟨d, e1, o3, Ex.refl _, r1.mono e⟩
theorem gi_scr (h : G K w ρ tl fun d => ∃ ns, d = .scr ns ∧ RI (ns.map Dat.int)) : GI K w ρ (iList K tl) RI := fun c σ H o RK q =>
  h c σ H o _ fun v H2 d o2 l r ⟨ds, e, k⟩ => by
    subst e
    cases r with
    | @scr a ns ha =>
    refine ⟨a, rfl, ⟨_, ex_l vw_le ha⟩, q _ H2 _ _ _ _ o2 l (walk_list (xs := ds.map V.int)) (by simp) (fun H3 e => ?_) (fun i H3 x H' c' ρ' σ' hi o3 e y => ?_) k⟩
    · rcases ha with ha | ha
      · exact .inl (ex_rd e ha)
      · exact .inr ha
    · obtain ⟨y1, y2⟩ := y
      subst y1
      obtain ⟨d, e1, r1⟩ := (RepL.ofInts (K := K) (B := sv c' ρ' σ' H') ds).get' y2
      exact ⟨d, e1, o3, Ex.refl _, r1⟩
theorem gi_tup (h : G K w ρ tl fun d => ∃ ds, d = .tup ds ∧ RI ds) : GI K w ρ (iTup K tl) RI := fun c σ H o RK q =>
  h c σ H o _ fun v H2 d o2 l r ⟨ds, e, k⟩ => by
    subst e
    cases r with
    | @tup a xs _ ha rl =>
    refine ⟨a, rfl, ⟨xs, ex_t vw_le ha⟩, q _ H2 _ _ _ ds o2 l (walk_tup (xs := xs)) rl.length.symm (fun H3 e => ex_t e ha) (fun i H3 x H' c' ρ' σ' hi o3 e y => ?_) k⟩
    obtain ⟨y1, y2⟩ := y
    subst y1
    obtain ⟨d, e1, r1⟩ := rl.get' y2
    exact ⟨d, e1, o3, Ex.refl _, r1.mono e⟩
theorem gi_str (h : G K true ρ te fun d => ∃ s, d = .str s ∧ RI (s.map fun n => .str [n])) : GI K w ρ (iStr te) RI := fun c σ H o RK q =>
  h c σ H o _ fun v H2 d o2 l r ⟨s, e, k⟩ => by
    subst e
    cases r
    refine ⟨S s, rfl, q _ H2 _ _ _ _ o2 l walk_str (by simp) (fun H3 e => trivial) (fun i H3 x H' c' ρ' σ' hi o3 e y => ?_) k⟩
    obtain ⟨y1, n, y2, y3⟩ := y
    subst y1 y3
    refine ⟨.str [n], ?_, o3, Ex.refl _, .str [n]⟩
    have y4 : s[i]? = some n := by simpa using y2
    rw [List.getElem?_map, y4]
    rfl
/-- the ints lo, lo + 1, .. -/
def rngI (lo : Int) (n : Nat) : List Dat := (List.range n).map fun (i : Nat) => Dat.int (lo + (i : Int))
theorem rngI_len (lo : Int) (n : Nat) : (rngI lo n).length = n := by unfold rngI; simp
theorem rngI_get {lo : Int} {n i : Nat} (h : i < n) : (rngI lo n)[i]? = some (.int (lo + (i : Int))) := by
  unfold rngI
  rw [List.getElem?_map, List.getElem?_range h]
  rfl
theorem rngI_get' {lo : Int} {n i : Nat} {d : Dat} (h : (rngI lo n)[i]? = some d) : i < n ∧ d = .int (lo + (i : Int)) := by
  have hi : i < n := by
    have := (List.getElem?_eq_some_iff.mp h).1
    rw [rngI_len] at this
    exact this
  rw [rngI_get hi] at h
  exact ⟨hi, (Option.some.inj h).symm⟩
theorem gi_rng1 {t : TA} (h : GA K true ρ t fun xs => ∃ j : Int, xs = [.int j] ∧ -(2 ^ 62) ≤ j ∧ j < 2 ^ 62 ∧ RI (rngI 0 j.toNat)) : GI K w ρ (iRng1 t) RI := fun c σ H o RK q =>
  h c σ H o _ fun vs H2 ds o2 l r ⟨j, e, h1, h2, k⟩ => by
    subst e
    cases r with
    | cons r1 r2 =>
    cases r1
    cases r2
    refine ⟨j, rfl, h1, h2, q _ H2 _ _ _ _ o2 l walk_range (rngI_len _ _) (fun H3 e => trivial) (fun i H3 x H' c' ρ' σ' hi o3 e y => ?_) k⟩
    obtain ⟨y1, y2⟩ := y
    subst y1 y2
    exact ⟨_, rngI_get hi, o3, Ex.refl _, .int _⟩
theorem gi_rng2 {t : TA} (h : GA K true ρ t fun xs => ∃ i j : Int, xs = [.int i, .int j] ∧ (-(2 ^ 62) ≤ i ∧ i < 2 ^ 62 ∧ -(2 ^ 62) ≤ j ∧ j < 2 ^ 62) ∧ RI (rngI i (j - i).toNat)) : GI K w ρ (iRng2 t) RI := fun c σ H o RK q =>
  h c σ H o _ fun vs H2 ds o2 l r ⟨i, j, e, h1, k⟩ => by
    subst e
    cases r with
    | cons r1 r2 =>
    cases r2 with
    | cons r2 r3 =>
    cases r1
    cases r2
    cases r3
    refine ⟨i, j, rfl, h1, q _ H2 _ _ _ _ o2 l walk_range (rngI_len _ _) (fun H3 e => trivial) (fun i H3 x H' c' ρ' σ' hi o3 e y => ?_) k⟩
    obtain ⟨y1, y2⟩ := y
    subst y1 y2
    exact ⟨_, rngI_get hi, o3, Ex.refl _, .int _⟩
/-- the ints lo, lo + c, .. -/
def rngC (lo st : Int) (n : Nat) : List Dat := (List.range n).map fun (i : Nat) => Dat.int (lo + (i : Int) * st)
theorem rngC_len (lo st : Int) (n : Nat) : (rngC lo st n).length = n := by unfold rngC; simp
theorem rngC_get' {lo st : Int} {n i : Nat} {d : Dat} (h : (rngC lo st n)[i]? = some d) : i < n ∧ d = .int (lo + (i : Int) * st) := by
  have hi : i < n := by
    have := (List.getElem?_eq_some_iff.mp h).1
    rw [rngC_len] at this
    exact this
  unfold rngC at h
  rw [List.getElem?_map, List.getElem?_range hi] at h
  exact ⟨hi, (Option.some.inj h).symm⟩
theorem gi_rng3 {t : TA} (h : GA K true ρ t fun xs => ∃ (i j st : Int) (n : Nat), xs = [.int i, .int j, .int st] ∧ RgC i j st n ∧ RI (rngC i st n)) : GI K w ρ (iRng3 t) RI := fun c σ H o RK q =>
  h c σ H o _ fun vs H2 ds o2 l r ⟨i, j, st, n, e, h1, k⟩ => by
    subst e
    cases r with
    | cons r1 r2 =>
    cases r2 with
    | cons r2 r3 =>
    cases r3 with
    | cons r3 r4 =>
    cases r1
    cases r2
    cases r3
    cases r4
    refine ⟨i, j, st, n, rfl, h1, q _ H2 _ _ _ _ o2 l walk_rangeC (rngC_len _ _ _) (fun H3 e => trivial) (fun i H3 x H' c' ρ' σ' hi o3 e y => ?_) k⟩
    obtain ⟨y1, y2⟩ := y
    subst y1 y2
    refine ⟨_, ?_, o3, Ex.refl _, .int _⟩
    unfold rngC
    rw [List.getElem?_map, List.getElem?_range hi]
    rfl
end

section
variable {K : KB} {w : Bool} {ρ : LS} {t u : TS} {N : LS → Prop} {R : Ret → LS → Prop} {B C : LS → Prop}
/-- THE for -/
theorem run_for {wi : TI} {g : TG} {tb : TS} (h : GI K false ρ wi fun ds => ∃ W : Nat → LS → Prop, W 0 ρ ∧ (∀ i x ρ', ds[i]? = some x → W i ρ' → GG K ρ' g x fun ρ2 => Run K ρ2 tb (W (i + 1)) R N (W (i + 1))) ∧ ∀ ρ', W ds.length ρ' → N ρ') :
    Run K ρ (tFor wi g tb) N R B C := fun c D is σ H o => by
  refine h c σ H o _ fun J H2 n G Y ds o2 l wk hn hG hY hh => ?_
  obtain ⟨W, h0, hs, hd⟩ := hh
  obtain ⟨c', hP, hx, o3, hf⟩ := o2.fix
  refine for_it wk (fun i σ' H' => ∃ ρ', Ok K c' ρ' σ' H' ∧ W i ρ') ⟨ρ, o3, h0⟩ (fun i σ' H' _ ⟨ρ', o', _⟩ => hG H' ((hf ρ' σ' H' o').2.trans vw_le)) (fun i x σ' H3 H' hi ⟨ρ', o', w'⟩ y => ?_) fun σ' H' ⟨ρ', o', w'⟩ => ?_
  · obtain ⟨d, e1, o4, e4, r1⟩ := hY i H3 x H' c' ρ' σ' hi o' (by rw [sv_P hP]; exact (hf ρ' σ' H3 o').2) y
    refine hs i d ρ' e1 w' c' σ' H' x o4 r1 _ fun ρ2 σ2 o5 _ k => ?_
    exact k c' { D with nx := fun σ H => ∃ ρ', Ok K c' ρ' σ H ∧ W (i + 1) ρ', ct := fun σ H => ∃ ρ', Ok K c' ρ' σ H ∧ W (i + 1) ρ', bk := D.nx } ⟨fun ρ σ H o w => ⟨ρ, o, w⟩, fun ρ σ H v d o r w => is.rt ρ σ H v d (hf ρ σ H o).1 (by rw [sv_P hP] at r; exact r) w, fun ρ σ H a s o h r hp w => is.rn ρ σ H a s (hf ρ σ H o).1 ((hx a) h) (by rw [sv_P hP] at r; exact r) hp w, fun ρ σ H o w => is.nx ρ σ H (hf ρ σ H o).1 w, fun ρ σ H o w => ⟨ρ, o, w⟩⟩ σ2 H' o5
  · rw [← hn] at w'
    exact is.nx ρ' σ' H' (hf ρ' σ' H' o').1 (hd ρ' w')

/-! ### comprehensions -/
def wipeS (ρ : LS) : List Nat → LS
  | [] => ρ
  | v :: vs => (wipeS ρ vs).set v .no
/-- slots off vs as they are, those of vs keep nothing private -/
structure Off (vs : List Nat) (ρ : LS) (σ : St) (ρ' : LS) (σ' : St) : Prop where
  l1 : ρ'.length = ρ.length
  l2 : σ'.length = σ.length
  eq : ∀ i, i ∉ vs → ρ'[i]? = ρ[i]? ∧ σ'[i]? = σ[i]?
  np : ∀ i, i ∈ vs → ∀ s, ρ'[i]? = some s → ∀ v, pa s v = none
theorem Off.trans {vs : List Nat} {ρ ρ1 ρ2 : LS} {σ σ1 σ2 : St} (a : Off vs ρ σ ρ1 σ1) (b : Off vs ρ1 σ1 ρ2 σ2) : Off vs ρ σ ρ2 σ2 :=
  ⟨b.l1.trans a.l1, b.l2.trans a.l2, fun i hi => ⟨(b.eq i hi).1.trans (a.eq i hi).1, (b.eq i hi).2.trans (a.eq i hi).2⟩, b.np⟩
theorem Off.set {vs : List Nat} {ρ ρ1 : LS} {σ σ1 : St} (a : Off vs ρ σ ρ1 σ1) {j : Nat} (hj : j ∈ vs) {s : Slot} {v : Option V} (hp : ∀ v, pa s v = none) : Off vs ρ σ (ρ1.set j s) (σ1.set j v) := by
  refine ⟨by rw [List.length_set]; exact a.l1, by rw [List.length_set]; exact a.l2, fun i hi => ?_, fun i hi s' h => ?_⟩
  · have n : j ≠ i := fun e => hi (e ▸ hj)
    rw [List.getElem?_set_ne n, List.getElem?_set_ne n]
    exact a.eq i hi
  · rcases set_get h with ⟨_, e, _⟩ | ⟨_, e⟩
    · rw [e]; exact hp
    · exact a.np i hi s' e
theorem wipe_ext {σ σ' : St} : ∀ {vs : List Nat}, σ'.length = σ.length → (∀ i, i ∉ vs → σ'[i]? = σ[i]?) → wipe σ' vs = wipe σ vs := fun {vs} hl he => by
  apply List.ext_getElem?
  intro i
  by_cases hi : i ∈ vs
  · have key : ∀ (τ : St) (vs : List Nat), i ∈ vs → i < τ.length → (wipe τ vs)[i]? = some none := by
      intro τ vs
      induction vs with
      | nil => intro h; cases h
      | cons v vs ih =>
        intro h hl
        show ((wipe τ vs).set v none)[i]? = some none
        by_cases e : v = i
        · subst e
          exact List.getElem?_set_self (by rw [wipe_length]; exact hl)
        · rw [List.getElem?_set_ne e]
          rcases List.mem_cons.mp h with z | z
          · exact absurd z.symm e
          · exact ih z hl
    by_cases hlt : i < σ.length
    · rw [key σ' vs hi (by omega), key σ vs hi hlt]
    · rw [List.getElem?_eq_none (by rw [wipe_length]; omega), List.getElem?_eq_none (by rw [wipe_length]; omega)]
  · have key : ∀ (τ : St) (vs : List Nat), i ∉ vs → (wipe τ vs)[i]? = τ[i]? := by
      intro τ vs
      induction vs with
      | nil => intro _; rfl
      | cons v vs ih =>
        intro h
        have n1 : v ≠ i := fun e => h (by rw [e]; exact List.mem_cons_self)
        show ((wipe τ vs).set v none)[i]? = τ[i]?
        rw [List.getElem?_set_ne n1]
        exact ih fun z => h (List.mem_cons_of_mem _ z)
    rw [key σ' vs hi, key σ vs hi, he i hi]
theorem Off.wipe {ρ : LS} {σ : St} : ∀ {vs : List Nat}, (∀ i, i ∈ vs → ∀ s, ρ[i]? = some s → ∀ v, pa s v = none) → Off vs ρ σ (wipeS ρ vs) (L2.wipe σ vs) := fun {vs} h => by
  have key : ∀ us : List Nat, (∀ i, i ∈ us → i ∈ vs) → Off vs ρ σ (wipeS ρ us) (L2.wipe σ us) := by
    intro us
    induction us with
    | nil => intro _; exact ⟨rfl, rfl, fun _ _ => ⟨rfl, rfl⟩, h⟩
    | cons u us ih => intro hs; exact (ih fun i hi => hs i (List.mem_cons_of_mem _ hi)).set (hs u List.mem_cons_self) fun v => rfl
  exact key vs fun _ h => h
/-- a block's target -/
def GC (K : KB) (vs : List Nat) (ρ : LS) (g : TG) (x : Dat) (k : LS → Prop) : Prop := ∀ c σ H v, Ok K c ρ σ H → Rep K (sv c ρ σ H) v x → ∀ Q : St → Hp → Prop, (∀ ρ' σ', Ok K c ρ' σ' H → Ex (sv c ρ σ H) (sv c ρ' σ' H) → (∀ ρ0 σ0, Off vs ρ0 σ0 ρ σ → Off vs ρ0 σ0 ρ' σ') → k ρ' → Q σ' H) → g v σ H Q
def GCs (K : KB) (vs : List Nat) (ρ : LS) (g : TGs) (xs : List Dat) (k : LS → Prop) : Prop := ∀ c σ H us, Ok K c ρ σ H → RepL K (sv c ρ σ H) us xs → ∀ Q : St → Hp → Prop, (∀ ρ' σ', Ok K c ρ' σ' H → Ex (sv c ρ σ H) (sv c ρ' σ' H) → (∀ ρ0 σ0, Off vs ρ0 σ0 ρ σ → Off vs ρ0 σ0 ρ' σ') → k ρ' → Q σ' H) → g us σ H Q
theorem gc_name {vs : List Nat} {k : LS → Prop} {i : Nat} {x : Dat} (hi : i ∈ vs) (h : k (ρ.set i (.d x))) : GC K vs ρ (gName i) x k := fun c σ H v o r Q q =>
  q _ _ (o.setD (s := .d x) (v := some v) rfl ⟨v, rfl, r⟩) (ex_setD (s := .d x) rfl) (fun ρ0 σ0 f => f.set hi fun _ => rfl) h
theorem gcs_nil {vs : List Nat} {k : LS → Prop} (h : k ρ) : GCs K vs ρ gNil [] k := fun c σ H us o r Q q => by
  cases r
  exact ⟨rfl, q ρ σ o (Ex.refl _) (fun _ _ f => f) h⟩
theorem gcs_cons {vs : List Nat} {k : LS → Prop} {g : TG} {gs : TGs} {x : Dat} {xs : List Dat} (h : GC K vs ρ g x fun ρ1 => GCs K vs ρ1 gs xs k) : GCs K vs ρ (gCons g gs) (x :: xs) k := fun c σ H us o r Q q => by
  cases r with
  | cons r1 r2 => exact ⟨_, _, rfl, h c σ H _ o r1 _ fun ρ1 σ1 o1 e1 f1 h1 => h1 c σ1 H _ o1 (r2.mono e1) Q fun ρ2 σ2 o2 e2 f2 h2 => q ρ2 σ2 o2 (e1.trans e2) (fun ρ0 σ0 f => f2 ρ0 σ0 (f1 ρ0 σ0 f)) h2⟩
theorem gc_tup {vs : List Nat} {k : LS → Prop} {n : Nat} {gs : TGs} {xs : List Dat} (hn : xs.length = n) (h : GCs K vs ρ gs xs k) : GC K vs ρ (gTup K n gs) (.tup xs) k := fun c σ H v o r Q q => by
  cases r with
  | tup s rl => exact ⟨_, _, rfl, ex_t vw_le s, by rw [rl.length]; exact hn, h c σ H _ o rl Q q⟩

/-- P and one address more -/
def Bc.plus (c : Bc) (a : Addr) : Bc := ⟨fun b => c.P b ∨ b = a, c.X, c.H0⟩
section
variable {c : Bc} {σ : St} {H H2 : Hp} {a : Addr}
theorem minus_ex {c : Bc} {ρ : LS} {σ : St} {H : Hp} {a : Addr} : Ex (sv (c.plus a) ρ σ H) (sv c ρ σ H) := hid_ex fun b o hb e => ⟨fun z => hb (z.imp .inl id), e⟩
theorem Ok0.minus {K : PySem.W.Frag} {ρ : LS} (k : Ok0 K (c.plus a) ρ σ H) : Ok0 K c ρ σ H := by
  exact ⟨k.len, fun i s v h1 h2 => (k.sl i s v h1 h2).mono minus_ex fun _ _ _ h => h, k.inj, fun b h z => k.np b h (.inl z), k.fr, k.xs, fun b z => k.pt b (.inl z)⟩
theorem XOk.plus (x : XOk K c) : XOk K (c.plus a) := x.tr (fun ρ σ H o => o.minus) fun ρ σ H => minus_ex
theorem Ok.plus (k : Ok K c ρ σ H) (n : H a = none) {o : HO} : Ok K (c.plus a) ρ σ (upd H a o) := by
  have k2 := k.ex (Ex.new (o := o) n)
  have npr : ∀ b, Pr ρ σ b → b ≠ a := fun b h e => by
    obtain ⟨o', e', _⟩ := k.tr h
    rw [e, n] at e'
    cases e'
  have ev : Ex (sv c ρ σ H) (sv (c.plus a) ρ σ (upd H a o)) := hid_ex fun b o' hb e => by
    have nb : b ≠ a := fun z => by rw [z, n] at e; cases e
    refine ⟨fun z => ?_, by rw [upd_ne nb]; exact e⟩
    rcases z with (z | z) | z
    · exact hb (.inl z)
    · exact nb z
    · exact hb (.inr z)
  refine ⟨⟨k.len, fun i s v h1 h2 => (k.sl i s v h1 h2).mono ev fun b o' hb hh => by rw [upd_ne (npr b ⟨i, s, v, h1, h2, hb⟩)]; exact hh, k.inj, fun b h z => ?_, k2.fr, k.xs, fun b z => ?_⟩, k.xo.plus⟩
  · rcases z with z | z
    · exact k.np b h z
    · exact npr b h z
  · rcases z with z | z
    · exact k2.pt b z
    · exact ⟨o, by rw [z, upd_same]⟩
/-- the hidden address is written -/
theorem Ok.plusW (k : Ok K (c.plus a) ρ σ H) (n0 : c.H0 a = none) {o : HO} : Ok K (c.plus a) ρ σ (upd H a o) := by
  have ev : Ex (sv (c.plus a) ρ σ H) (sv (c.plus a) ρ σ (upd H a o)) := hid_ex fun b o' hb e => ⟨hb, by rw [upd_ne fun z => hb (.inl (.inr z))]; exact e⟩
  refine ⟨⟨k.len, fun i s v h1 h2 => (k.sl i s v h1 h2).mono ev fun b o' hb hh => by rw [upd_ne fun z => k.np b ⟨i, s, v, h1, h2, hb⟩ (.inr z)]; exact hh, k.inj, k.np, fun b o' h1 h2 => ?_, k.xs, fun b z => ?_⟩, k.xo⟩
  · have nb : b ≠ a := fun z => by
      rw [z] at h2
      change c.H0 a = some o' at h2
      rw [n0] at h2
      cases h2
    rw [upd_ne nb]
    exact k.fr b o' h1 h2
  · by_cases e : b = a
    · exact ⟨o, by rw [e, upd_same]⟩
    · obtain ⟨o', e'⟩ := k.pt b z
      exact ⟨o', by rw [upd_ne e]; exact e'⟩
theorem Off.fr {vs : List Nat} {ρ' : LS} {σ' : St} (f : Off vs ρ σ ρ' σ') (hn : ∀ i, i ∈ vs → ∀ s, ρ[i]? = some s → ∀ v, pa s v = none) {b : Addr} : Fr ρ' σ' b ↔ Fr ρ σ b := by
  constructor
  · rintro ⟨i, s, v, h1, h2, h3⟩
    by_cases hi : i ∈ vs
    · have := f.np i hi s h1 v
      rw [fa_pa h3] at this
      cases this
    · exact ⟨i, s, v, by rw [← (f.eq i hi).1]; exact h1, by rw [← (f.eq i hi).2]; exact h2, h3⟩
  · rintro ⟨i, s, v, h1, h2, h3⟩
    by_cases hi : i ∈ vs
    · have := hn i hi s h1 v
      rw [fa_pa h3] at this
      cases this
    · exact ⟨i, s, v, by rw [(f.eq i hi).1]; exact h1, by rw [(f.eq i hi).2]; exact h2, h3⟩
theorem Off.pr {vs : List Nat} {ρ' : LS} {σ' : St} (f : Off vs ρ σ ρ' σ') (hn : ∀ i, i ∈ vs → ∀ s, ρ[i]? = some s → ∀ v, pa s v = none) {b : Addr} : Pr ρ' σ' b ↔ Pr ρ σ b := by
  constructor
  · rintro ⟨i, s, v, h1, h2, h3⟩
    by_cases hi : i ∈ vs
    · have := f.np i hi s h1 v
      rw [h3] at this
      cases this
    · exact ⟨i, s, v, by rw [← (f.eq i hi).1]; exact h1, by rw [← (f.eq i hi).2]; exact h2, h3⟩
  · rintro ⟨i, s, v, h1, h2, h3⟩
    by_cases hi : i ∈ vs
    · have := hn i hi s h1 v
      rw [h3] at this
      cases this
    · exact ⟨i, s, v, by rw [(f.eq i hi).1]; exact h1, by rw [(f.eq i hi).2]; exact h2, h3⟩
theorem Off.vw {vs : List Nat} {ρ' : LS} {σ' : St} (f : Off vs ρ σ ρ' σ') (hn : ∀ i, i ∈ vs → ∀ s, ρ[i]? = some s → ∀ v, pa s v = none) : sv c ρ' σ' H = sv c ρ σ H := by
  have : (Pr ρ' σ') = (Pr ρ σ) := funext fun b => propext (f.pr hn)
  show hid (fun b => c.P b ∨ Pr ρ' σ' b) H = hid (fun b => c.P b ∨ Pr ρ σ b) H
  rw [this]
theorem Ok.wipe (k : Ok K c ρ σ H) : ∀ vs : List Nat, Ok K c (wipeS ρ vs) (L2.wipe σ vs) H
  | [] => k
  | v :: vs => (Ok.wipe k vs).setD rfl trivial
/-- back from a block -/
theorem Ok.back {vs : List Nat} {ρ' : LS} {σ' : St} (k : Ok K c ρ σ H) (hn : ∀ i, i ∈ vs → ∀ s, ρ[i]? = some s → ∀ v, pa s v = none) (f : Off vs ρ σ ρ' σ') (k2 : Ok K c ρ' σ' H2) (l : Le c ρ' σ' H H2) : Ok K c ρ σ H2 ∧ Le c ρ σ H H2 := by
  have l' : Le c ρ σ H H2 := fun b o h2 h3 => l b o (fun z => h2 ((f.fr hn).mp z)) h3
  refine ⟨k.grow l' (fun i s v h1 h2 hs => ?_) k2.fr k2.pt, l'⟩
  by_cases hi : i ∈ vs
  · have q := hn i hi s h1 v
    cases s with
    | src a => cases q
    | _ => exact absurd hs (by simp [fa])
  · have q := k2.sl i s v (by rw [(f.eq i hi).1]; exact h1) (by rw [(f.eq i hi).2]; exact h2)
    cases s with
    | src a => exact q
    | _ => exact absurd hs (by simp [fa])
end
/-- THE comprehension -/
theorem gn_lc {wi : TI} {g : TG} {tt : TT} {te : TE} {vs : List Nat} {RS : Slot → Prop} (hn : ∀ i, i ∈ vs → ∀ s, ρ[i]? = some s → ∀ v, pa s v = none) (h : GI K false ρ wi fun ds => ds.length < 1000000 ∧ ∃ W : Nat → List Dat → Prop, W 0 [] ∧
    (∀ i x acc, ds[i]? = some x → W i acc → acc.length ≤ i → GC K vs (wipeS ρ vs) g x fun ρ2 => GT K ρ2 tt fun b => (b = true → G K false ρ2 te fun y => W (i + 1) (acc ++ [y])) ∧ (b = false → W (i + 1) acc)) ∧ ∀ acc, acc.length ≤ ds.length → W ds.length acc → RS (.own acc)) :
    GN K ρ (tLc wi g tt te vs) RS := fun c σ H o Q q => by
  refine h c σ H o _ fun J H2 n Gj Y ds o2 l wk hlen hG hY ⟨hsz, W, h0, hs, hd⟩ D hD => ?_
  have hD0 : H D = none := by
    cases e : H D with
    | none => rfl
    | some ob =>
      have nv := o2.vis (w := false) hD
      rw [l D ob (fun z => nv (.inr (by rw [if_neg Bool.false_ne_true]; exact z.pr))) e] at hD
      cases hD
  have n0 : c.H0 D = none ∨ c.X D := by
    by_cases hx : c.X D
    · exact .inr hx
    · left
      cases e : c.H0 D with
      | none => rfl
      | some ob => rw [o2.fr D ob hx e] at hD; cases hD
  -- the context in which D is hidden, and does not stand in H0
  have key : ∃ c1 : Bc, c1.P = c.P ∧ c1.H0 D = none ∧ Ok K c1 ρ σ H2 ∧ ∀ H', Ok K c1 ρ σ H' → Ok K c ρ σ H' := by
    have hb : ∀ (ρ' : LS) (σ' : St) (H' : Hp), Ok0 K.F ⟨c.P, fun b => c.X b, fun b => @ite _ (b = D) (Classical.propDecidable _) none (c.H0 b)⟩ ρ' σ' H' → Ok0 K.F c ρ' σ' H' := fun ρ' σ' H' k => by
      refine ⟨k.len, k.sl, k.inj, k.np, fun b ob h1 h2 => ?_, fun b h => ?_, k.pt⟩
      · refine k.fr b ob h1 ?_
        show @ite _ (b = D) (Classical.propDecidable _) none (c.H0 b) = some ob
        have e : b ≠ D := fun z => by
          rcases n0 with n0 | n0
          · rw [z, n0] at h2; cases h2
          · exact h1 (by rw [z]; exact n0)
        rw [if_neg e]
        exact h2
      · rcases k.xs b h with z | z
        · exact .inl z
        · change @ite _ (b = D) (Classical.propDecidable _) none (c.H0 b) = none at z
          by_cases e : b = D
          · rw [e]; exact n0.symm
          · rw [if_neg e] at z; exact .inr z
    refine ⟨⟨c.P, fun b => c.X b, fun b => @ite _ (b = D) (Classical.propDecidable _) none (c.H0 b)⟩, rfl, if_pos rfl, ⟨⟨o2.len, o2.sl, o2.inj, o2.np, fun b ob h1 h2 => ?_, fun b h => ?_, o2.pt⟩, o2.xo.tr hb fun ρ σ H => Ex.refl _⟩, fun H' k => ⟨hb ρ σ H' k.toOk0, o2.xo⟩⟩
    · change @ite _ (b = D) (Classical.propDecidable _) none (c.H0 b) = some ob at h2
      by_cases e : b = D
      · rw [if_pos e] at h2; cases h2
      · rw [if_neg e] at h2; exact o2.fr b ob h1 h2
    · rcases o2.xs b h with z | z
      · exact .inl z
      · right
        show @ite _ (b = D) (Classical.propDecidable _) none (c.H0 b) = none
        by_cases e : b = D
        · rw [if_pos e]
        · rw [if_neg e]; exact z
  obtain ⟨c1, hP, hD1, o3, hback⟩ := key
  have o4 : Ok K (c1.plus D) ρ σ (upd H2 D (.lst [])) := o3.plus hD
  -- what is seen at the start is seen with D hidden
  have see : ∀ {H' : Hp}, (∀ b ob, b ≠ D → ¬ Fr ρ σ b → H2 b = some ob → H' b = some ob) → Ex (sv c ρ σ H2) (sv (c1.plus D) ρ σ H') := fun l' => hid_ex fun b ob hb e => by
    have nb : b ≠ D := fun z => by rw [z, hD] at e; cases e
    refine ⟨fun z => ?_, l' b ob nb (fun z => hb (.inr (by rw [if_neg Bool.false_ne_true]; exact z.pr))) e⟩
    rcases z with (z | z) | z
    · exact hb (.inl (by rw [← hP]; exact z))
    · exact nb z
    · exact hb (.inr z)
  refine lc_it wk (Qd := Q (.ref D)) (fun i H' => ∃ acc accD, Ok K (c1.plus D) ρ σ H' ∧ (∀ b ob, b ≠ D → ¬ Fr ρ σ b → H2 b = some ob → H' b = some ob) ∧ H' D = some (.lst acc) ∧ RepL K (sv (c1.plus D) ρ σ H') acc accD ∧ accD.length ≤ i ∧ W i accD) ⟨[], [], o4, fun b ob nb _ e => by rw [upd_ne nb]; exact e, upd_same, .nil, Nat.le_refl _, h0⟩ (fun i H' _ ⟨acc, accD, o', l', _⟩ => hG H' ((see l').trans vw_le)) (fun i x H3 H' hi ⟨acc, accD, o', l', hA, rA, hl, w'⟩ y => ?_) fun H' ⟨acc, accD, o', l', hA, rA, hl, w'⟩ => ?_
  · -- a turn
    obtain ⟨d, e1, o5, e5, r5⟩ := hY i H3 x H' (c1.plus D) (wipeS ρ vs) (L2.wipe σ vs) hi (o'.wipe vs) (by
      rw [(Off.wipe (σ := σ) hn).vw hn]
      exact see l') y
    have o6 : Ok K (c1.plus D) ρ σ H' := o'.ex e5
    have hA6 : H' D = some (.lst acc) := e5 D _ hA
    have rA6 := rA.mono (Le.vw (w := false) (c := c1.plus D) (ρ := ρ) (σ := σ) e5.le)
    refine hs i d accD e1 w' hl (c1.plus D) (L2.wipe σ vs) H' x o5 r5 _ fun ρ2 σ2 o7 e7 f7 k7 => ?_
    have f8 := f7 ρ σ (Off.wipe hn)
    refine ⟨wipe_ext (f8.l2.trans (wipe_length σ vs).symm |>.trans (wipe_length σ vs)) (fun i hi => (f8.eq i hi).2) |>.trans rfl, k7 (c1.plus D) σ2 H' o7 _ fun b H4 o8 l8 k8 => ?_⟩
    obtain ⟨b1, b2⟩ := o6.back hn f8 o8 l8
    have nF : ∀ {ρ' : LS} {σ' : St} {Hx : Hp}, Ok K (c1.plus D) ρ' σ' Hx → ¬ Fr ρ' σ' D := fun ok z => ok.np D z.pr (.inr rfl)
    have hA4 : H4 D = some (.lst acc) := l8 D _ (nF o7) hA6
    have rA4 := rA6.mono (b2.vw (w := false))
    have lA : ∀ b ob, b ≠ D → ¬ Fr ρ σ b → H2 b = some ob → H4 b = some ob := fun b ob nb nf e => b2 b ob nf (e5 b ob (l' b ob nb nf e))
    cases b with
    | true =>
      rw [if_pos rfl]
      refine k8.1 rfl (c1.plus D) σ2 H4 o8 _ fun v H5 y o9 l9 r9 k9 => ?_
      obtain ⟨d1, d2⟩ := b1.back hn f8 o9 l9
      have hA5 : H5 D = some (.lst acc) := l9 D _ (nF o8) hA4
      have rA5 := rA4.mono (d2.vw (w := false))
      have r9' : Rep K (sv (c1.plus D) ρ σ H5) v y := by
        have e : vw (c1.plus D) false ρ2 σ2 H5 = vw (c1.plus D) false ρ σ H5 := f8.vw hn
        rw [e] at r9
        exact r9
      have up : Ex (sv (c1.plus D) ρ σ H5) (sv (c1.plus D) ρ σ (upd H5 D (.lst (acc ++ [v])))) := hid_ex fun b ob hb e => ⟨hb, by rw [upd_ne fun z => hb (.inl (.inr z))]; exact e⟩
      refine ⟨acc, hA5, by rw [rA5.length]; exact Nat.lt_of_le_of_lt hl (by have := bigL hsz; omega), acc ++ [v], accD ++ [y], d1.plusW hD1, ?_, upd_same, (rA5.append (.one r9')).mono up, ?_, k9⟩
      · intro b ob nb nf e
        rw [upd_ne nb]
        exact d2 b ob nf (lA b ob nb nf e)
      · rw [List.length_append, List.length_singleton]
        omega
    | false =>
      rw [if_neg Bool.false_ne_true]
      exact ⟨acc, accD, b1, lA, hA4, rA4, Nat.le_succ_of_le hl, k8.2 rfl⟩
  · rw [← hlen] at w' hl
    have ob := hback H' ⟨o'.toOk0.minus, o3.xo⟩
    refine q D H' (.own accD) ob ?_ hD0 ⟨D, acc, rfl, hA, rA.mono (hid_ex fun b ob hb e => ⟨fun z => ?_, hid_some.mpr ⟨fun z => ?_, e⟩⟩)⟩ rfl (hd accD hl w')
    · intro b ob h2 h3
      have nb : b ≠ D := fun z => by rw [z, hD0] at h3; cases h3
      exact l' b ob nb h2 (l b ob h2 h3)
    · exact hb (.inl (.inr z))
    · refine hb ?_
      rcases z with z | z
      · exact .inl (.inl (by rw [hP]; exact z))
      · exact .inr z
end
end BV

end

section
set_option maxHeartbeats 4000000
namespace BV
open PySem PySem.Spec L2
open PyProof.Rows (envOfC)

section
variable {K : KB} {w : Bool} {ρ : LS} {ta tb te tl : TE} {t : TA} {R : Dat → Prop}
/-! ### new objects -/
theorem gn_lst (h : GA K false ρ t fun xs => xs.length ≤ 100000 ∧ RS (.own xs)) : GN K ρ (tLst t) RS := fun c σ H o Q q =>
  h c σ H o _ fun us H1 xs o1 l1 r1 h1 => ⟨by rw [r1.length]; exact Nat.le_trans h1.1 (by decide), fun p hp => by
    have hp0 : H p = none := by
      cases e : H p with
      | none => rfl
      | some ob =>
        have nv := o1.vis (w := false) hp
        rw [l1 p ob (fun z => nv (.inr (by rw [if_neg Bool.false_ne_true]; exact z.pr))) e] at hp
        cases hp
    refine q p _ (.own xs) (o1.ex (Ex.new hp)) (l1.trans (Ex.new hp).le) hp0 ⟨p, us, rfl, upd_same, r1.mono fun b ob hb => ?_⟩ rfl h1.2
    have nb : b ≠ p := fun z => by rw [z] at hb; rw [vw_le p _ hb] at hp; cases hp
    exact hid_some.mpr ⟨nb, (Le.vw (w := false) (c := c) (ρ := ρ) (σ := σ) (Ex.new hp).le) b ob hb⟩⟩
theorem gn_dk {RS : Slot → Prop} (h : RS (.od [])) : GN K ρ tDNewK RS := fun c σ H o Q q p hp =>
  q p _ (.od []) (o.ex (Ex.new hp)) (Ex.new hp).le hp ⟨p, [], rfl, upd_same, .nil⟩ rfl h
theorem gn_dt {RS : Slot → Prop} (h : RS (.ot [])) : GN K ρ tDNewT RS := fun c σ H o Q q p hp =>
  q p _ (.ot []) (o.ex (Ex.new hp)) (Ex.new hp).le hp ⟨p, [], rfl, upd_same, .nil⟩ rfl h
/-- a new list as data -/
theorem g_new (h : GN K ρ te fun s => ∃ ds, s = .own ds ∧ R (.lst ds)) : G K w ρ te R := fun c σ H o Q q =>
  h c σ H o _ fun a H2 s o2 l n r hp ⟨ds, e, k⟩ => by
    subst e
    obtain ⟨a', xs, e1, e2, r2⟩ := r
    cases e1
    refine q _ H2 _ o2 l (.lst (hid_some.mpr ⟨?_, e2⟩) (r2.mono fun b ob hb => vw_up2 b ob (hid_some.mp hb).2)) k
    rintro (z | z)
    · obtain ⟨ob, e⟩ := o.pt a z
      rw [n] at e
      cases e
    · have z' : Pr ρ σ a := by
        cases w with
        | true => rw [if_pos rfl] at z; exact z.pr
        | false => rw [if_neg Bool.false_ne_true] at z; exact z
      obtain ⟨ob, e, _⟩ := o.tr z'
      rw [n] at e
      cases e

/-! ### promises by data -/
def spF (K : PySem.W.Frag) (S : List Dat → (Dat → Prop) → Prop) : Sp := fun vs H Q _ => ∃ (P : Addr → Prop) (ds : List Dat) (R : Dat → Prop), (∀ a, P a → ∃ o, H a = some o) ∧ RepL K (hid P H) vs ds ∧ S ds R ∧
  ∀ v H' d, Ex H H' → Rep K (hid P H') v d → R d → Q v H'
def spS (K : PySem.W.Frag) (S : List Dat → (Dat → Prop) → Prop) : Sp := fun vs H Q _ => ∃ (P : Addr → Prop) (s : Addr) (us : List V) (ds : List Dat) (R : Dat → Prop), vs = .ref s :: us ∧ SrcAt H s ∧ ¬ P s ∧ (∀ a, P a → ∃ o, H a = some o) ∧
  RepL K (hid (fun b => P b ∨ b = s) H) us ds ∧ S ds R ∧ ∀ v H' d, (∀ b o, b ≠ s → H b = some o → H' b = some o) → SrcAt H' s → Rep K (hid (fun b => P b ∨ b = s) H') v d → R d → Q v H'
/-- a new source comes back -/
def spN (K : PySem.W.Frag) (S : List Dat → Prop) : Sp := fun vs H Q _ => ∃ (P : Addr → Prop) (ds : List Dat), (∀ a, P a → ∃ o, H a = some o) ∧ RepL K (hid P H) vs ds ∧ S ds ∧
  ∀ a H', Ex H H' → H a = none → SrcAt H' a → Q (.ref a) H'
/-- an __init__ of the class at C -/
def spI (K : PySem.W.Frag) (C : Addr) (S : List Dat → (List (Str × Dat) → Prop) → Prop) : Sp := fun vs H Q _ => ∃ (P : Addr → Prop) (x dx : Addr) (us : List V) (ds : List Dat) (R : List (Str × Dat) → Prop), vs = .ref x :: us ∧ H x = some (.ins C dx []) ∧ ¬ P x ∧ (∀ a, P a → ∃ o, H a = some o) ∧
  RepL K (hid (fun b => P b ∨ b = x) H) us ds ∧ S ds R ∧ ∀ H' dx' xs fs, (∀ b o, b ≠ x → H b = some o → H' b = some o) → H' x = some (.ins C dx' xs) → RepF K (hid (fun b => P b ∨ b = x) H') xs fs → R fs → Q .non H'

theorem Ok.trk {c : Bc} {σ : St} {H : Hp} (o : Ok K c ρ σ H) : ∀ a, (c.P a ∨ if w = true then Fr ρ σ a else Pr ρ σ a) → ∃ ob, H a = some ob := fun a h => by
  cases e : H a with
  | some ob => exact ⟨ob, rfl⟩
  | none => exact absurd h (o.vis e)
theorem g_call {S : List Dat → (Dat → Prop) → Prop} {E : XK} (h : GA K w ρ t fun ds => S ds R) : G K w ρ (tCall (spF K S) [] E t) R := fun c σ H o Q q =>
  h c σ H o _ fun vs H1 ds o1 l1 r1 k => by
    show spF K S (vs ++ []) H1 Q E
    rw [List.append_nil]
    exact ⟨_, ds, R, o1.trk, r1, k, fun v H' d e rv rd => q v H' d (o1.ex e) (l1.trans e.le) rv rd⟩
theorem g_callS {S : List Dat → (Dat → Prop) → Prop} {E : XK} {i : Nat} {s : Addr} (he : ρ[i]? = some (.src s)) (h : GA K w ρ t fun ds => S ds R) : G K w ρ (tCall (spS K S) [] E (tCons (tVar i) t)) R := fun c σ H o Q q => by
  obtain ⟨v, e, rfl, hs⟩ := o.get he
  refine ⟨_, e, h c σ H o _ fun vs H1 ds o1 l1 r1 k => ?_⟩
  show spS K S ((.ref s :: vs) ++ []) H1 Q E
  rw [List.append_nil]
  have hF : Fr ρ σ s := ⟨i, _, _, he, e, rfl⟩
  have hX : c.P s ∨ (if w = true then Fr ρ σ s else Pr ρ σ s) := .inr (by
    cases w with
    | true => rw [if_pos rfl]; exact hF
    | false => rw [if_neg Bool.false_ne_true]; exact hF.pr)
  have hs1 : SrcAt H1 s := by
    obtain ⟨v, e', _, q1⟩ := o1.get he
    exact q1
  refine ⟨fun b => (c.P b ∨ (if w = true then Fr ρ σ b else Pr ρ σ b)) ∧ b ≠ s, s, vs, ds, R, rfl, hs1, fun z => z.2 rfl, fun a ha => o1.trk (w := w) a ha.1, r1.mono (hid_ex fun b ob hb e => ⟨fun z => ?_, e⟩), k, fun v H' d hk hs' rv rd => ?_⟩
  · rcases z with z | z
    · exact hb z.1
    · exact hb (by rw [z]; exact hX)
  · have l2 : Le c ρ σ H1 H' := fun b ob nf e => hk b ob (fun z => nf (by rw [z]; exact hF)) e
    refine q v H' d (o1.grow l2 (fun i' s' v' h1 h2 hf => ?_) (fun b ob h1 h2 => ?_) fun a ha => ?_) (l1.trans l2) (rv.mono (hid_ex fun b ob hb e => ⟨fun z => hb ?_, e⟩)) rd
    · cases s' with
      | src a =>
        obtain ⟨rfl, n, sd, cc, e1⟩ := o1.sl i' _ v' h1 h2
        refine ⟨rfl, ?_⟩
        by_cases ea : a = s
        · rw [ea]; exact hs'
        · exact ⟨n, sd, cc, hk a _ ea e1⟩
      | _ => exact absurd hf (by simp [fa])
    · refine hk b ob (fun z => ?_) (o1.fr b ob h1 h2)
      rcases o1.xs s hF.pr with y | y
      · exact h1 (by rw [z]; exact y)
      · rw [z, y] at h2; cases h2
    · by_cases z : a = s
      · exact absurd ha (by rw [z]; exact o1.np s hF.pr)
      · obtain ⟨ob, e⟩ := o1.pt a ha
        exact ⟨ob, hk a ob z e⟩
    · by_cases ea : b = s
      · exact .inr ea
      · exact .inl ⟨z, ea⟩
/-- a new instance -/
theorem g_make {C : Addr} {S : List Dat → (List (Str × Dat) → Prop) → Prop} {E : XK} (h : GA K w ρ t fun ds => S ds fun fs => R (.obj C fs)) : G K w ρ (tMake C (spI K C S) [] E t) R := fun c σ H o Q q =>
  h c σ H o _ fun vs H1 ds o1 l1 r1 k => fun x dx hx hdx ne => by
    show spI K C S (.ref x :: (vs ++ [])) _ _ E
    rw [List.append_nil]
    have e1 : Ex H1 (upd (upd H1 dx (.own x)) x (.ins C dx [])) := (Ex.new hdx).trans (Ex.new (by rw [upd_ne ne.symm]; exact hx))
    have o2 := o1.ex e1
    refine ⟨fun b => c.P b ∨ (if w = true then Fr ρ σ b else Pr ρ σ b), x, dx, vs, ds, _, rfl, upd_same, o1.vis (w := w) hx, o2.trk, r1.mono (hid_ex fun b ob hb e => ⟨fun z => ?_, e1 b ob e⟩), k, fun H' dx' xs fs hk hx' rf rr => ⟨rfl, ?_⟩⟩
    · rcases z with z | z
      · exact hb z
      · rw [z, hx] at e; cases e
    · have e3 : Ex H1 H' := fun b ob e => hk b ob (fun z => by rw [z, hx] at e; cases e) (e1 b ob e)
      exact q _ H' _ (o1.ex e3) (l1.trans e3.le) (.obj (hid_some.mpr ⟨o1.vis (w := w) hx, hx'⟩) (rf.mono (hid_ex fun b ob hb e => ⟨fun z => hb (.inl z), e⟩))) rr
end
section
variable {K : KB} {w : Bool} {ρ : LS} {ta tb te tl : TE} {t : TA}
theorem run_src {S : List Dat → Prop} {E : XK} {i : Nat} {N : LS → Prop} {R : Ret → LS → Prop} {B C : LS → Prop} (h : GA K false ρ t fun ds => S ds ∧ ∀ a, N (ρ.set i (.src a))) : Run K ρ (tAsg (tCall (spN K S) [] E t) (gName i)) N R B C := fun c D is σ H o =>
  h c σ H o _ fun vs H1 ds o1 l1 r1 k => by
    show spN K S (vs ++ []) H1 _ E
    rw [List.append_nil]
    refine ⟨_, ds, o1.trk, r1, k.1, fun a H' e n hs => ?_⟩
    have o2 := o1.ex e
    exact is.nx _ _ _ (o1.setN o2 e.le n (s := .src a) ⟨rfl, hs⟩ rfl) (k.2 a)

/-! ### a def keeps its promise -/
def startS (N : List Str) (ds : List Dat) : LS := ds.map Slot.d ++ List.replicate (N.length - ds.length) Slot.no
theorem start_get {K : PySem.W.Frag} {N : List Str} {vs : List V} {ds : List Dat} {i : Nat} {s : Slot} {v : Option V} {B : Hp} (r : RepL K B vs ds) (h1 : (startS N ds)[i]? = some s) (h2 : (L2.start N vs)[i]? = some v) : s = .no ∨ ∃ x u, s = .d x ∧ v = some u ∧ Rep K B u x := by
  unfold startS at h1
  unfold L2.start at h2
  by_cases hi : i < ds.length
  · right
    rw [List.getElem?_append_left (by simpa using hi), List.getElem?_map] at h1
    rw [List.getElem?_append_left (by rw [List.length_map, r.length]; exact hi), List.getElem?_map] at h2
    cases e1 : ds[i]? with
    | none => rw [e1] at h1; cases h1
    | some x =>
      rw [e1] at h1
      cases h1
      obtain ⟨u, e2, ru⟩ := r.get e1
      rw [e2] at h2
      cases h2
      exact ⟨x, u, rfl, rfl, ru⟩
  · left
    rw [List.getElem?_append_right (by simpa using hi), List.getElem?_replicate] at h1
    split at h1
    · cases h1; rfl
    · cases h1
theorem start_len {N : List Str} {vs : List V} {ds : List Dat} (h : vs.length = ds.length) : (startS N ds).length = (L2.start N vs).length := by
  unfold startS L2.start
  rw [List.length_append, List.length_append, List.length_map, List.length_map, List.length_replicate, List.length_replicate, h]
section
variable {K : PySem.W.Frag} {P : Program} {wd : World} {mg : Str → Option Value} {base : Heap} {x qual : Str} {st : Stmt} {f : Addr} {fd : FuncData} {N ps : List Str} {k : Nat}
theorem okF {S : List Dat → (Dat → Prop) → Prop} (F : Fun K x qual st f fd) (sc : FnScope N ps (defScope st)) (len : ∀ ds R, S ds R → ds.length = ps.length)
    (hb : ∀ (cdv : Value) (A : Around) (outer : List Env) (s : Shared) (H : Hp) (E : XK), Room k (A.deeper (envOfC qual (defScope st) s.heap.objs.size f cdv)) →
      ∃ t, PSs (cxOf CX0 P wd K mg base N qual (defScope st) f cdv A outer s H E).nox (defBody st) t ∧ ∀ ds R, S ds R → Run (KB.of K) (startS N ds) t (fun _ => R .non) (fun r _ => ∃ d, r = .d d ∧ R d) (fun _ => False) fun _ => False) :
    FnOk P wd K mg base CX0 (k + 1) f fd ps (spF K S) := by
  refine F.ok sc (fun vs H Q E h => ?_) fun cdv A outer s H vs Q E hr h => ?_
  · obtain ⟨P, ds, R, _, r, hS, _⟩ := h
    rw [r.length]
    exact len ds R hS
  · obtain ⟨Pp, ds, R, hp, r, hS, kq⟩ := h
    obtain ⟨t, ht, run⟩ := hb cdv A outer s H E hr
    refine ⟨t, ht, ?_⟩
    have nop : ∀ a, ¬ Pr (startS N ds) (L2.start N vs) a := fun a ⟨i, s', v', h1, h2, h3⟩ => by
      rcases start_get r h1 h2 with e | ⟨y, u, e, _⟩
      · rw [e] at h3; cases h3
      · rw [e] at h3; cases h3
    have o : Ok (KB.of K) ⟨Pp, fun _ => False, H⟩ (startS N ds) (L2.start N vs) H := by
      refine ⟨⟨start_len r.length, fun i s' v' h1 h2 => ?_, fun i j s1 v1 s2 v2 a g1 g2 g3 => absurd ⟨i, s1, v1, g1, g2, g3⟩ (nop a), fun a h => absurd h (nop a), fun _ _ _ h => h, fun a h => absurd h (nop a), hp⟩, .of⟩
      rcases start_get r h1 h2 with e | ⟨y, u, e, e2, ru⟩
      · rw [e]; trivial
      · rw [e, e2]
        refine ⟨u, rfl, ru.mono (hid_ex fun b ob hb e => ⟨fun z => ?_, e⟩)⟩
        rcases z with z | z
        · exact hb z
        · rw [if_neg Bool.false_ne_true] at z; exact nop b z
    refine run ds R hS _ _ ⟨fun ρ' σ' H' o' n => ?_, fun ρ' σ' H' v d o' rv rd => ?_, fun ρ' σ' H' a s' o' hx rs hpa rd => ?_, fun _ _ _ _ z => z.elim, fun _ _ _ _ z => z.elim⟩ _ _ o
    · exact kq .non H' .non (fun b ob e => o'.fr b ob (fun z => z) e) .non n
    · obtain ⟨d', e, rd⟩ := rd
      cases e
      exact kq v H' d (fun b ob e => o'.fr b ob (fun z => z) e) (rv.mono (hid_ex fun b ob hb e => ⟨fun z => hb (.inl z), e⟩)) rd
    · obtain ⟨d', e, rd⟩ := rd
      cases e
theorem okS {S : List Dat → (Dat → Prop) → Prop} (F : Fun K x qual st f fd) (sc : FnScope N ps (defScope st)) (len : ∀ ds R, S ds R → ds.length + 1 = ps.length)
    (hb : ∀ (cdv : Value) (A : Around) (outer : List Env) (s : Shared) (H : Hp) (E : XK), Room k (A.deeper (envOfC qual (defScope st) s.heap.objs.size f cdv)) →
      ∃ t, PSs (cxOf CX0 P wd K mg base N qual (defScope st) f cdv A outer s H E).nox (defBody st) t ∧ ∀ (s : Addr) ds R, S ds R → Run (KB.of K) (.src s :: startS N.tail ds) t (fun ρ => ρ[0]? = some (.src s) ∧ R .non) (fun r ρ => ρ[0]? = some (.src s) ∧ ∃ d, r = .d d ∧ R d) (fun _ => False) fun _ => False) :
    FnOk P wd K mg base CX0 (k + 1) f fd ps (spS K S) := by
  refine F.ok sc (fun vs H Q E h => ?_) fun cdv A outer s H vs Q E hr h => ?_
  · obtain ⟨P, s, us, ds, R, rfl, _, _, _, r, hS, _⟩ := h
    rw [List.length_cons, r.length]
    exact len ds R hS
  · obtain ⟨Pp, s0, us, ds, R, rfl, hs0, np0, hp, r, hS, kq⟩ := h
    obtain ⟨t, ht, run⟩ := hb cdv A outer s H E hr
    refine ⟨t, ht, ?_⟩
    have hl := len ds R hS
    have hN : N ≠ [] := fun z => by
      have e := sc.pre
      rw [z] at e
      have : ps.length = 0 := by rw [← e]; simp
      omega
    obtain ⟨n0, Nt, rfl⟩ := List.exists_cons_of_ne_nil hN
    have es : L2.start (n0 :: Nt) (V.ref s0 :: us) = some (.ref s0) :: L2.start Nt us := by
      unfold L2.start
      simp
    rw [es]
    have get : ∀ {i : Nat} {s' : Slot} {v' : Option V}, (Slot.src s0 :: startS Nt ds)[i]? = some s' → (some (V.ref s0) :: L2.start Nt us)[i]? = some v' → (i = 0 ∧ s' = .src s0 ∧ v' = some (.ref s0)) ∨ s' = .no ∨ ∃ x u, s' = .d x ∧ v' = some u ∧ Rep K (hid (fun b => Pp b ∨ b = s0) H) u x := fun {i s' v'} h1 h2 => by
      cases i with
      | zero => simp at h1 h2; exact .inl ⟨rfl, h1.symm, h2.symm⟩
      | succ i => exact .inr (start_get r (by simpa using h1) (by simpa using h2))
    have prs : ∀ a, Pr (Slot.src s0 :: startS Nt ds) (some (.ref s0) :: L2.start Nt us) a → a = s0 := fun a ⟨i, s', v', h1, h2, h3⟩ => by
      rcases get h1 h2 with ⟨_, e, e2⟩ | e | ⟨y, u, e, _⟩
      · rw [e] at h3; cases h3; rfl
      · rw [e] at h3; cases h3
      · rw [e] at h3; cases h3
    have o : Ok (KB.of K) ⟨Pp, fun b => b = s0, H⟩ (Slot.src s0 :: startS Nt ds) (some (.ref s0) :: L2.start Nt us) H := by
      refine ⟨⟨by rw [List.length_cons, List.length_cons, start_len r.length], fun i s' v' h1 h2 => ?_, fun i j s1 v1 s2 v2 a g1 g2 g3 g4 g5 g6 => ?_, fun a h => by rw [prs a h]; exact np0, fun _ _ _ h => h, fun a h => .inl (prs a h), hp⟩, .of⟩
      · rcases get h1 h2 with ⟨_, e, e2⟩ | e | ⟨y, u, e, e2, ru⟩
        · rw [e, e2]; exact ⟨rfl, hs0⟩
        · rw [e]; trivial
        · rw [e, e2]
          refine ⟨u, rfl, ru.mono (hid_ex fun b ob hb e => ⟨fun z => ?_, e⟩)⟩
          rcases z with z | z
          · exact hb (.inl z)
          · rw [if_neg Bool.false_ne_true] at z; exact hb (.inr (prs b z))
      · have z1 : i = 0 := by
          rcases get g1 g2 with ⟨e, _⟩ | e | ⟨y, u, e, _⟩
          · exact e
          · rw [e] at g3; cases g3
          · rw [e] at g3; cases g3
        have z2 : j = 0 := by
          rcases get g4 g5 with ⟨e, _⟩ | e | ⟨y, u, e, _⟩
          · exact e
          · rw [e] at g6; cases g6
          · rw [e] at g6; cases g6
        rw [z1, z2]
    have fin : ∀ {ρ' : LS} {σ' : St} {H' : Hp} {v : V} {d : Dat}, Ok (KB.of K) ⟨Pp, fun b => b = s0, H⟩ ρ' σ' H' → ρ'[0]? = some (.src s0) → Rep K (sv ⟨Pp, fun b => b = s0, H⟩ ρ' σ' H') v d → R d → Q v H' := fun {ρ' σ' H' v d} o' h0 rv rd => by
      obtain ⟨v0, e0, rfl, hs⟩ := o'.get h0
      have hF : Pr ρ' σ' s0 := ⟨0, _, _, h0, e0, rfl⟩
      refine kq v H' d (fun b ob nb e => o'.fr b ob nb e) hs (rv.mono (hid_ex fun b ob hb e => ⟨fun z => ?_, e⟩)) rd
      rcases z with z | z
      · exact hb (.inl z)
      · exact hb (.inr (by rw [if_neg Bool.false_ne_true, z]; exact hF))
    refine run s0 ds R hS _ _ ⟨fun ρ' σ' H' o' n => fin o' n.1 .non n.2, fun ρ' σ' H' v d o' rv rd => ?_, fun ρ' σ' H' a s' o' hx rs hpa rd => ?_, fun _ _ _ _ z => z.elim, fun _ _ _ _ z => z.elim⟩ _ _ o
    · obtain ⟨h0, d', e, rd⟩ := rd
      cases e
      exact fin o' h0 rv rd
    · obtain ⟨h0, d', e, rd⟩ := rd
      cases e
theorem okN {S : List Dat → Prop} (F : Fun K x qual st f fd) (sc : FnScope N ps (defScope st)) (len : ∀ ds, S ds → ds.length = ps.length)
    (hb : ∀ (cdv : Value) (A : Around) (outer : List Env) (s : Shared) (H : Hp) (E : XK), Room k (A.deeper (envOfC qual (defScope st) s.heap.objs.size f cdv)) →
      ∃ t, PSs (cxOf CX0 P wd K mg base N qual (defScope st) f cdv A outer s H E).nox (defBody st) t ∧ ∀ ds, S ds → Run (KB.of K) (startS N ds) t (fun _ => False) (fun r _ => ∃ n s c : Int, r = .n (.own [.int n, .int s, .int c])) (fun _ => False) fun _ => False) :
    FnOk P wd K mg base CX0 (k + 1) f fd ps (spN K S) := by
  refine F.ok sc (fun vs H Q E h => ?_) fun cdv A outer s H vs Q E hr h => ?_
  · obtain ⟨P, ds, _, r, hS, _⟩ := h
    rw [r.length]
    exact len ds hS
  · obtain ⟨Pp, ds, hp, r, hS, kq⟩ := h
    obtain ⟨t, ht, run⟩ := hb cdv A outer s H E hr
    refine ⟨t, ht, ?_⟩
    have nop : ∀ a, ¬ Pr (startS N ds) (L2.start N vs) a := fun a ⟨i, s', v', h1, h2, h3⟩ => by
      rcases start_get r h1 h2 with e | ⟨y, u, e, _⟩
      · rw [e] at h3; cases h3
      · rw [e] at h3; cases h3
    have o : Ok (KB.of K) ⟨Pp, fun _ => False, H⟩ (startS N ds) (L2.start N vs) H := by
      refine ⟨⟨start_len r.length, fun i s' v' h1 h2 => ?_, fun i j s1 v1 s2 v2 a g1 g2 g3 => absurd ⟨i, s1, v1, g1, g2, g3⟩ (nop a), fun a h => absurd h (nop a), fun _ _ _ h => h, fun a h => absurd h (nop a), hp⟩, .of⟩
      rcases start_get r h1 h2 with e | ⟨y, u, e, e2, ru⟩
      · rw [e]; trivial
      · rw [e, e2]
        refine ⟨u, rfl, ru.mono (hid_ex fun b ob hb e => ⟨fun z => ?_, e⟩)⟩
        rcases z with z | z
        · exact hb z
        · rw [if_neg Bool.false_ne_true] at z; exact nop b z
    refine run ds hS _ _ ⟨fun _ _ _ _ z => z.elim, fun ρ' σ' H' v d o' rv rd => ?_, fun ρ' σ' H' a s' o' hx rs hpa rd => ?_, fun _ _ _ _ z => z.elim, fun _ _ _ _ z => z.elim⟩ _ _ o
    · obtain ⟨_, _, _, e⟩ := rd
      cases e
    · obtain ⟨n, sd, cc, e⟩ := rd
      cases e
      obtain ⟨a', xs, e1, e2, r2⟩ := rs
      cases e1
      refine kq a H' (fun b ob e => o'.fr b ob (fun z => z) e) (hx.resolve_left fun z => z) ⟨n, sd, cc, ?_⟩
      cases r2 with
      | cons r2 r3 =>
      cases r3 with
      | cons r3 r4 =>
      cases r4 with
      | cons r4 r5 =>
      cases r2
      cases r3
      cases r4
      cases r5
      exact e2
/-- an __init__ -/
theorem okI {C : Addr} {S : List Dat → (List (Str × Dat) → Prop) → Prop} (F : Fun K x qual st f fd) (sc : FnScope N ps (defScope st)) (len : ∀ ds R, S ds R → ds.length + 1 = ps.length)
    (hb : ∀ (cdv : Value) (A : Around) (outer : List Env) (s : Shared) (H : Hp) (E : XK), Room k (A.deeper (envOfC qual (defScope st) s.heap.objs.size f cdv)) →
      ∃ t, PSs (cxOf CX0 P wd K mg base N qual (defScope st) f cdv A outer s H E).nox (defBody st) t ∧ ∀ (s : Addr) ds R, S ds R → Run (KB.of K) (.ins s C [] :: startS N.tail ds) t (fun ρ => ∃ fs, ρ[0]? = some (.ins s C fs) ∧ R fs) (fun r ρ => False) (fun _ => False) fun _ => False) :
    FnOk P wd K mg base CX0 (k + 1) f fd ps (spI K C S) := by
  refine F.ok sc (fun vs H Q E h => ?_) fun cdv A outer s H vs Q E hr h => ?_
  · obtain ⟨P, s, dx, us, ds, R, rfl, _, _, _, r, hS, _⟩ := h
    rw [List.length_cons, r.length]
    exact len ds R hS
  · obtain ⟨Pp, s0, dx, us, ds, R, rfl, hs0, np0, hp, r, hS, kq⟩ := h
    obtain ⟨t, ht, run⟩ := hb cdv A outer s H E hr
    refine ⟨t, ht, ?_⟩
    have hl := len ds R hS
    have hN : N ≠ [] := fun z => by
      have e := sc.pre
      rw [z] at e
      have : ps.length = 0 := by rw [← e]; simp
      omega
    obtain ⟨n0, Nt, rfl⟩ := List.exists_cons_of_ne_nil hN
    have es : L2.start (n0 :: Nt) (V.ref s0 :: us) = some (.ref s0) :: L2.start Nt us := by
      unfold L2.start
      simp
    rw [es]
    have get : ∀ {i : Nat} {s' : Slot} {v' : Option V}, (Slot.ins s0 C [] :: startS Nt ds)[i]? = some s' → (some (V.ref s0) :: L2.start Nt us)[i]? = some v' → (i = 0 ∧ s' = .ins s0 C [] ∧ v' = some (.ref s0)) ∨ s' = .no ∨ ∃ x u, s' = .d x ∧ v' = some u ∧ Rep K (hid (fun b => Pp b ∨ b = s0) H) u x := fun {i s' v'} h1 h2 => by
      cases i with
      | zero => simp at h1 h2; exact .inl ⟨rfl, h1.symm, h2.symm⟩
      | succ i => exact .inr (start_get r (by simpa using h1) (by simpa using h2))
    have prs : ∀ a, Pr (Slot.ins s0 C [] :: startS Nt ds) (some (.ref s0) :: L2.start Nt us) a → a = s0 := fun a ⟨i, s', v', h1, h2, h3⟩ => by
      rcases get h1 h2 with ⟨_, e, e2⟩ | e | ⟨y, u, e, _⟩
      · rw [e] at h3; cases h3; rfl
      · rw [e] at h3; cases h3
      · rw [e] at h3; cases h3
    have o : Ok (KB.of K) ⟨Pp, fun b => b = s0, H⟩ (Slot.ins s0 C [] :: startS Nt ds) (some (.ref s0) :: L2.start Nt us) H := by
      refine ⟨⟨by rw [List.length_cons, List.length_cons, start_len r.length], fun i s' v' h1 h2 => ?_, fun i j s1 v1 s2 v2 a g1 g2 g3 g4 g5 g6 => ?_, fun a h => by rw [prs a h]; exact np0, fun _ _ _ h => h, fun a h => .inl (prs a h), hp⟩, .of⟩
      · rcases get h1 h2 with ⟨_, e, e2⟩ | e | ⟨y, u, e, e2, ru⟩
        · rw [e, e2]; exact ⟨dx, [], rfl, hs0, .nil⟩
        · rw [e]; trivial
        · rw [e, e2]
          refine ⟨u, rfl, ru.mono (hid_ex fun b ob hb e => ⟨fun z => ?_, e⟩)⟩
          rcases z with z | z
          · exact hb (.inl z)
          · rw [if_neg Bool.false_ne_true] at z; exact hb (.inr (prs b z))
      · have z1 : i = 0 := by
          rcases get g1 g2 with ⟨e, _⟩ | e | ⟨y, u, e, _⟩
          · exact e
          · rw [e] at g3; cases g3
          · rw [e] at g3; cases g3
        have z2 : j = 0 := by
          rcases get g4 g5 with ⟨e, _⟩ | e | ⟨y, u, e, _⟩
          · exact e
          · rw [e] at g6; cases g6
          · rw [e] at g6; cases g6
        rw [z1, z2]
    refine run s0 ds R hS _ _ ⟨fun ρ' σ' H' o' ⟨fs, h0, rr⟩ => ?_, fun ρ' σ' H' v d o' rv rd => rd.elim, fun ρ' σ' H' a s' o' hx rs hpa rd => rd.elim, fun _ _ _ _ z => z.elim, fun _ _ _ _ z => z.elim⟩ _ _ o
    obtain ⟨v0, e0, dx', xs, rfl, hx, rf⟩ := o'.get h0
    have hF : Pr ρ' σ' s0 := ⟨0, _, _, h0, e0, rfl⟩
    refine kq H' dx' xs fs (fun b ob nb e => o'.fr b ob nb e) hx (rf.mono (hid_ex fun b ob hb e => ⟨fun z => ?_, e⟩)) rr
    rcases z with z | z
    · exact hb (.inl z)
    · exact hb (.inr (by rw [if_neg Bool.false_ne_true, z]; exact hF))
end
end
end BV

end

section
set_option maxHeartbeats 4000000
namespace BV
open PySem L2

def rLen (K : PySem.W.Frag) : List V → Hp → VK → Prop := fun xs H Q => ∃ x n, xs = [x] ∧ LenV K x H n ∧ Q (.int n) H
def rInt : List V → Hp → VK → Prop := fun xs H Q => (∃ i, xs = [.int i] ∧ Q (.int i) H) ∨ ∃ k, xs = [.bl k] ∧ Q (.int (if k then 1 else 0)) H
def rBool : List V → Hp → VK → Prop := fun xs H Q => (∃ i, xs = [.int i] ∧ Q (.bl (i != 0)) H) ∨ ∃ k, xs = [.bl k] ∧ Q (.bl k) H
def rAbs : List V → Hp → VK → Prop := fun xs H Q => ∃ i, xs = [.int i] ∧ Q (.int (if i < 0 then -i else i)) H
def rMax2 : List V → Hp → VK → Prop := fun xs H Q => ∃ i j, xs = [.int i, .int j] ∧ Q (.int (if j > i then j else i)) H
def rMin2 : List V → Hp → VK → Prop := fun xs H Q => ∃ i j, xs = [.int i, .int j] ∧ Q (.int (if j < i then j else i)) H
def rTupOf (K : PySem.W.Frag) : List V → Hp → VK → Prop := fun xs H Q => ∃ p ys, xs = [.ref p] ∧ ((SqL K H p ys ∧ ∀ l, H l = none → Q (.ref l) (upd H l (.tup ys))) ∨ (SqT K H p ys ∧ Q (.ref p) H))
def rEnds : V → List V → Hp → VK → Prop := fun x xs H Q => ∃ a b, x = .str a ∧ xs = [.str b] ∧ Q (.bl (Txt.endswith a b)) H
def rStarts : V → List V → Hp → VK → Prop := fun x xs H Q => ∃ a b, x = .str a ∧ xs = [.str b] ∧ Q (.bl (Txt.startswith a b)) H
def rJoin (K : PySem.W.Frag) : V → List V → Hp → VK → Prop := fun x xs H Q => ∃ a p, ∃ ys : List Str, x = .str a ∧ xs = [.ref p] ∧ (SqL K H p (ys.map V.str) ∨ SqT K H p (ys.map V.str)) ∧ (ys.map (·.length)).sum + ys.length * a.length ≤ 16777216 ∧ Q (.str (Txt.join a ys)) H
section
variable {X : Cx}
theorem call_len_ : CallR X (.builtin "len") (rLen X.K) := call_len
theorem call_int_ : CallR X (.type "int") rInt := call_int1
theorem call_bool_ : CallR X (.type "bool") rBool := call_bool1
theorem call_abs_ : CallR X (.builtin "abs") rAbs := call_abs
theorem call_max2_ (hc : X.calm = true) : CallR X (.builtin "max") rMax2 := call_max2 hc
theorem call_min2_ (hc : X.calm = true) : CallR X (.builtin "min") rMin2 := call_min2 hc
theorem call_tupOf : CallR X (.type "tuple") (rTupOf X.K) := call_tuple_of
theorem mt_endswith_ : MtR X "str.endswith" rEnds := mt_endswith
theorem mt_startswith_ : MtR X "str.startswith" rStarts := mt_startswith
theorem mt_join_ : MtR X "str.join" (rJoin X.K) := mt_join
end
/-! ### dicts by value -/
def valD {κ α : Type} [DecidableEq κ] (kvs : List (κ × α)) (k : κ) : Option α := (kvs.find? fun kv => decide (kv.1 = k)).map (·.2)
def putKV {κ α : Type} [DecidableEq κ] (kvs : List (κ × α)) (k : κ) (v : α) : List (κ × α) :=
  if (kvs.any fun kv => decide (kv.1 = k)) = true then kvs.map (fun kv => if kv.1 = k then (kv.1, v) else kv) else kvs ++ [(k, v)]
theorem key_dec (a b : DKey) : decide (a.toK = b.toK) = decide (a = b) := by
  by_cases h : a = b
  · rw [decide_eq_true h, decide_eq_true (by rw [h])]
  · rw [decide_eq_false h, decide_eq_false fun e => h (DKey.toK_inj e)]
section
variable {K : PySem.W.Frag} {B : Hp}
theorem RepD.length : ∀ {xs : List (Key × V)} {kvs : List (DKey × Dat)}, RepD K B xs kvs → xs.length = kvs.length
  | _, _, .nil => rfl
  | _, _, .cons _ t => by rw [List.length_cons, List.length_cons, RepD.length t]
theorem RepD.val (k : DKey) : ∀ {xs : List (Key × V)} {kvs : List (DKey × Dat)}, RepD K B xs kvs → (valV xs k.toK = none ∧ valD kvs k = none) ∨ ∃ v d, valV xs k.toK = some v ∧ valD kvs k = some d ∧ Rep K B v d
  | _, _, .nil => .inl ⟨rfl, rfl⟩
  | _, _, @RepD.cons _ _ k0 v d xs ds r t => by
    unfold valV valD
    rw [List.find?_cons, List.find?_cons]
    simp only [key_dec]
    by_cases h : k0 = k
    · rw [decide_eq_true h]
      exact .inr ⟨v, d, rfl, rfl, r⟩
    · rw [decide_eq_false h]
      exact RepD.val k t
theorem RepD.any (k : DKey) : ∀ {xs : List (Key × V)} {kvs : List (DKey × Dat)}, RepD K B xs kvs → (xs.any fun kv => decide (kv.1 = k.toK)) = kvs.any fun kv => decide (kv.1 = k)
  | _, _, .nil => rfl
  | _, _, .cons r t => by
    rw [List.any_cons, List.any_cons, RepD.any k t]
    simp only [key_dec]
theorem RepD.repl {v : V} {d : Dat} (k : DKey) (r : Rep K B v d) : ∀ {xs : List (Key × V)} {kvs : List (DKey × Dat)}, RepD K B xs kvs → RepD K B (xs.map fun kv => if kv.1 = k.toK then (kv.1, v) else kv) (kvs.map fun kv => if kv.1 = k then (kv.1, d) else kv)
  | _, _, .nil => .nil
  | _, _, @RepD.cons _ _ k0 v0 d0 xs ds q t => by
    rw [List.map_cons, List.map_cons]
    by_cases h : k0 = k
    · rw [if_pos (show k0.toK = k.toK by rw [h]), if_pos h]
      exact .cons r (RepD.repl k r t)
    · rw [if_neg (fun e => h (DKey.toK_inj e)), if_neg h]
      exact .cons q (RepD.repl k r t)
theorem RepD.snoc {v : V} {d : Dat} (k : DKey) (r : Rep K B v d) : ∀ {xs : List (Key × V)} {kvs : List (DKey × Dat)}, RepD K B xs kvs → RepD K B (xs ++ [(k.toK, v)]) (kvs ++ [(k, d)])
  | _, _, .nil => .cons r .nil
  | _, _, .cons q t => .cons q (RepD.snoc k r t)
theorem RepD.put {v : V} {d : Dat} (k : DKey) (r : Rep K B v d) {xs : List (Key × V)} {kvs : List (DKey × Dat)} (t : RepD K B xs kvs) : RepD K B (putK xs k.toK v) (putKV kvs k d) := by
  unfold putK putKV
  rw [t.any k]
  by_cases h : (kvs.any fun kv => decide (kv.1 = k)) = true
  · rw [if_pos h, if_pos h]; exact t.repl k r
  · rw [if_neg h, if_neg h]; exact t.snoc k r
/-- data that is a key -/
inductive KeyD : Dat → DKey → Prop
  | i (n : Int) : KeyD (.int n) (.i n)
  | s (w : List Nat) : KeyD (.str w) (.s w)
theorem KeyD.rep {x : Dat} {k : DKey} {v : V} (h : KeyD x k) (r : Rep K B v x) : v = kV k.toK := by
  cases h <;> cases r <;> rfl
end

section
variable {K : KB} {w w1 : Bool} {ρ : LS} {ta tb tc te ty td tx : TE} {R : Dat → Prop} {t : TA}
/-- d.get(k) -/
theorem g_dget1 (h : G K w ρ td fun x => ∃ kvs, x = .dk kvs ∧ G K w ρ ty fun y => ∃ k, KeyD y k ∧ R ((valD kvs k).getD .non)) : G K w ρ (tDGet1 td ty) R := fun c σ H o Q q =>
  h c σ H o _ fun v H1 d o1 l1 r1 ⟨kvs, e, h1⟩ => by
    subst e
    cases r1 with
    | @dk a xs _ ha rk =>
    refine ⟨a, rfl, .inl ⟨xs, .inl (vw_le a _ ha)⟩, h1 c σ H1 o1 _ fun y H2 d o2 l2 r2 ⟨k, hk, kr⟩ => ⟨_, .inl ⟨xs, k.toK, .inl (vw_le a _ (l2.vw a _ ha)), hk.rep r2, rfl⟩, ?_⟩⟩
    rcases (rk.mono l2.vw).val k with ⟨e1, e2⟩ | ⟨v, d, e1, e2, r⟩
    · rw [e1]; rw [e2] at kr
      exact q _ H2 _ o2 (l1.trans l2) .non kr
    · rw [e1]; rw [e2] at kr
      exact q _ H2 _ o2 (l1.trans l2) r kr
theorem g_dget2 (h : G K w ρ td fun x => ∃ kvs, x = .dk kvs ∧ G K w ρ ty fun y => ∃ k, KeyD y k ∧ G K w ρ tx fun z => R ((valD kvs k).getD z)) : G K w ρ (tDGet2 td ty tx) R := fun c σ H o Q q =>
  h c σ H o _ fun v H1 d o1 l1 r1 ⟨kvs, e, h1⟩ => by
    subst e
    cases r1 with
    | @dk a xs _ ha rk =>
    refine ⟨a, rfl, .inl ⟨xs, .inl (vw_le a _ ha)⟩, h1 c σ H1 o1 _ fun y H2 d o2 l2 r2 ⟨k, hk, h2⟩ => h2 c σ H2 o2 _ fun z H3 dz o3 l3 r3 kr => ⟨_, .inl ⟨xs, k.toK, .inl (vw_le a _ ((l2.trans l3).vw a _ ha)), hk.rep r2, rfl⟩, ?_⟩⟩
    rcases (rk.mono (l2.trans l3).vw).val k with ⟨e1, e2⟩ | ⟨v, d, e1, e2, r⟩
    · rw [e1]; rw [e2] at kr
      exact q _ H3 _ o3 ((l1.trans l2).trans l3) r3 kr
    · rw [e1]; rw [e2] at kr
      exact q _ H3 _ o3 ((l1.trans l2).trans l3) r kr
/-- d[k] -/
theorem g_dix (h : G K w ρ td fun x => ∃ kvs, x = .dk kvs ∧ G K w ρ ty fun y => ∃ k d, KeyD y k ∧ valD kvs k = some d ∧ R d) : G K w ρ (tDGet td ty) R := fun c σ H o Q q =>
  h c σ H o _ fun v H1 d o1 l1 r1 ⟨kvs, e, h1⟩ => by
    subst e
    cases r1 with
    | @dk a xs _ ha rk =>
    refine h1 c σ H1 o1 _ fun y H2 dy o2 l2 r2 ⟨k, d, hk, hv, kr⟩ => ?_
    rcases (rk.mono l2.vw).val k with ⟨e1, e2⟩ | ⟨v, d', e1, e2, r⟩
    · rw [hv] at e2; cases e2
    · rw [hv] at e2
      cases e2
      exact ⟨a, v, rfl, .inl ⟨xs, k.toK, .inl (vw_le a _ (l2.vw a _ ha)), hk.rep r2, e1.symm⟩, q _ H2 _ o2 (l1.trans l2) r kr⟩
theorem g_din (h : G K true ρ ty fun y => ∃ k, KeyD y k ∧ G K true ρ td fun x => ∃ kvs, x = .dk kvs ∧ R (.bl (valD kvs k).isSome)) : G K w ρ (tDIn ty td) R := fun c σ H o Q q =>
  h c σ H o _ fun y H1 d o1 l1 r1 ⟨k, hk, h1⟩ => h1 c σ H1 o1 _ fun v H2 d o2 l2 r2 ⟨kvs, e, kr⟩ => by
    subst e
    cases r2 with
    | @dk a xs _ ha rk =>
    refine ⟨a, _, rfl, .inl ⟨xs, k.toK, .inl (vw_le a _ ha), hk.rep r1, rfl⟩, ?_⟩
    rcases rk.val k with ⟨e1, e2⟩ | ⟨v, d, e1, e2, r⟩
    · rw [e1]; rw [e2] at kr
      exact q _ H2 _ o2 (l1.trans l2) (.bl _) kr
    · rw [e1]; rw [e2] at kr
      exact q _ H2 _ o2 (l1.trans l2) (.bl _) kr
theorem g_dnotin (h : G K true ρ ty fun y => ∃ k, KeyD y k ∧ G K true ρ td fun x => ∃ kvs, x = .dk kvs ∧ R (.bl (!(valD kvs k).isSome))) : G K w ρ (tDNotIn ty td) R := fun c σ H o Q q =>
  h c σ H o _ fun y H1 d o1 l1 r1 ⟨k, hk, h1⟩ => h1 c σ H1 o1 _ fun v H2 d o2 l2 r2 ⟨kvs, e, kr⟩ => by
    subst e
    cases r2 with
    | @dk a xs _ ha rk =>
    refine ⟨a, _, rfl, .inl ⟨xs, k.toK, .inl (vw_le a _ ha), hk.rep r1, rfl⟩, ?_⟩
    rcases rk.val k with ⟨e1, e2⟩ | ⟨v, d, e1, e2, r⟩
    · rw [e1]; rw [e2] at kr
      exact q _ H2 _ o2 (l1.trans l2) (.bl _) kr
    · rw [e1]; rw [e2] at kr
      exact q _ H2 _ o2 (l1.trans l2) (.bl _) kr

/-! ### built-ins -/
theorem oc_len_str {s : List Nat} (hl : s.length ≤ 1000000) (k : R (.int s.length)) : OpC K w1 w ρ (rLen K) [.str s] R := fun c σ H us o r Q q => by
  cases r with
  | cons r1 r2 =>
  cases r1
  cases r2
  refine ⟨_, s.length, rfl, ⟨by rw [S_len]; exact big hl, (S_len s).symm⟩, q _ H _ o .refl (.int _) k⟩
theorem oc_len_lst {ds : List Dat} (k : R (.int ds.length)) : OpC K w1 w ρ (rLen K) [.lst ds] R := fun c σ H us o r Q q => by
  cases r with
  | cons r1 r2 =>
  cases r2
  cases r1 with
  | @lst a xs _ ha rl => exact ⟨_, ds.length, rfl, .inl ⟨xs, .inl (.inl (vw_le a _ ha)), rl.length.symm⟩, q _ H _ o .refl (.int _) k⟩
theorem oc_len_tup {ds : List Dat} (k : R (.int ds.length)) : OpC K w1 w ρ (rLen K) [.tup ds] R := fun c σ H us o r Q q => by
  cases r with
  | cons r1 r2 =>
  cases r2
  cases r1 with
  | @tup a xs _ ha rl => exact ⟨_, ds.length, rfl, .inr ⟨xs, ex_t vw_le ha, rl.length.symm⟩, q _ H _ o .refl (.int _) k⟩
theorem oc_len_scr {ns : List Int} (k : R (.int ns.length)) : OpC K w1 w ρ (rLen K) [.scr ns] R := fun c σ H us o r Q q => by
  cases r with
  | cons r1 r2 =>
  cases r2
  cases r1 with
  | @scr a _ ha => exact ⟨_, ns.length, rfl, .inl ⟨_, ex_l vw_le ha, by simp⟩, q _ H _ o .refl (.int _) k⟩
theorem oc_int {i : Int} (k : R (.int i)) : OpC K w1 w ρ rInt [.int i] R := fun c σ H us o r Q q => by
  cases r with
  | cons r1 r2 =>
  cases r1
  cases r2
  exact .inl ⟨i, rfl, q _ H _ o .refl (.int _) k⟩
theorem oc_intB {b : Bool} (k : R (.int (if b then 1 else 0))) : OpC K w1 w ρ rInt [.bl b] R := fun c σ H us o r Q q => by
  cases r with
  | cons r1 r2 =>
  cases r1
  cases r2
  exact .inr ⟨b, rfl, q _ H _ o .refl (.int _) k⟩
theorem oc_boolB {b : Bool} (k : R (.bl b)) : OpC K w1 w ρ rBool [.bl b] R := fun c σ H us o r Q q => by
  cases r with
  | cons r1 r2 =>
  cases r1
  cases r2
  exact .inr ⟨b, rfl, q _ H _ o .refl (.bl _) k⟩
theorem oc_abs {i : Int} (k : R (.int (if i < 0 then -i else i))) : OpC K w1 w ρ rAbs [.int i] R := fun c σ H us o r Q q => by
  cases r with
  | cons r1 r2 =>
  cases r1
  cases r2
  exact ⟨i, rfl, q _ H _ o .refl (.int _) k⟩
theorem oc_max2 {i j : Int} (k : R (.int (max i j))) : OpC K w1 w ρ rMax2 [.int i, .int j] R := fun c σ H us o r Q q => by
  cases r with
  | cons r1 r2 =>
  cases r2 with
  | cons r2 r3 =>
  cases r1
  cases r2
  cases r3
  refine ⟨i, j, rfl, ?_⟩
  have e : (if j > i then j else i) = max i j := by split <;> omega
  rw [e]
  exact q _ H _ o .refl (.int _) k
theorem oc_min2 {i j : Int} (k : R (.int (min i j))) : OpC K w1 w ρ rMin2 [.int i, .int j] R := fun c σ H us o r Q q => by
  cases r with
  | cons r1 r2 =>
  cases r2 with
  | cons r2 r3 =>
  cases r1
  cases r2
  cases r3
  refine ⟨i, j, rfl, ?_⟩
  have e : (if j < i then j else i) = min i j := by split <;> omega
  rw [e]
  exact q _ H _ o .refl (.int _) k
theorem oc_maxL {ns : List Int} (h0 : 0 < ns.length) (k : ∀ m, m ∈ ns → (∀ y, y ∈ ns → y ≤ m) → R (.int m)) : OpC K w1 w ρ (rMax K) [.lst (ns.map .int)] R := fun c σ H us o r Q q => by
  cases r with
  | cons r1 r2 =>
  cases r2
  cases r1 with
  | @lst a xs _ ha rl =>
  exact ⟨a, ns, rfl, .inl (.inl (by rw [← rl.ints]; exact vw_le a _ ha)), h0, fun m h1 h2 => q _ H _ o .refl (.int _) (k m h1 h2)⟩
theorem oc_minL {ns : List Int} (h0 : 0 < ns.length) (k : ∀ m, m ∈ ns → (∀ y, y ∈ ns → m ≤ y) → R (.int m)) : OpC K w1 w ρ (rMin K) [.lst (ns.map .int)] R := fun c σ H us o r Q q => by
  cases r with
  | cons r1 r2 =>
  cases r2
  cases r1 with
  | @lst a xs _ ha rl =>
  exact ⟨a, ns, rfl, .inl (.inl (by rw [← rl.ints]; exact vw_le a _ ha)), h0, fun m h1 h2 => q _ H _ o .refl (.int _) (k m h1 h2)⟩
theorem oc_sum {ns : List Int} (k : R (.int ns.sum)) : OpC K w1 w ρ (rSum K) [.lst (ns.map .int)] R := fun c σ H us o r Q q => by
  cases r with
  | cons r1 r2 =>
  cases r2
  cases r1 with
  | @lst a xs _ ha rl =>
  exact ⟨a, ns, rfl, .inl (.inl (by rw [← rl.ints]; exact vw_le a _ ha)), q _ H _ o .refl (.int _) k⟩
theorem oc_any {bs : List Bool} (k : R (.bl (bs.any id))) : OpC K w1 w ρ (rAny K) [.lst (bs.map .bl)] R := fun c σ H us o r Q q => by
  cases r with
  | cons r1 r2 =>
  cases r2
  cases r1 with
  | @lst a xs _ ha rl =>
  exact ⟨a, bs, rfl, .inl (.inl (by rw [← rl.bools]; exact vw_le a _ ha)), q _ H _ o .refl (.bl _) k⟩
theorem oc_all {bs : List Bool} (k : R (.bl (bs.all id))) : OpC K w1 w ρ (rAll K) [.lst (bs.map .bl)] R := fun c σ H us o r Q q => by
  cases r with
  | cons r1 r2 =>
  cases r2
  cases r1 with
  | @lst a xs _ ha rl =>
  exact ⟨a, bs, rfl, .inl (.inl (by rw [← rl.bools]; exact vw_le a _ ha)), q _ H _ o .refl (.bl _) k⟩
/-- tuple(list) -/
theorem oc_tuple {ds : List Dat} (k : R (.tup ds)) : OpC K w w ρ (rTupOf K) [.lst ds] R := fun c σ H us o r Q q => by
  cases r with
  | cons r1 r2 =>
  cases r2
  cases r1 with
  | @lst a xs _ ha rl =>
  exact ⟨a, xs, rfl, .inl ⟨.inl (.inl (vw_le a _ ha)), fun p hp => q _ _ _ (o.ex (Ex.new hp)) (Ex.new hp).le (.tup (.inl (.inl (o.vw_new hp))) (rl.mono (Le.vw (Ex.new hp).le))) k⟩⟩
theorem oc_tupleT {ds : List Dat} (k : R (.tup ds)) : OpC K w w ρ (rTupOf K) [.tup ds] R := fun c σ H us o r Q q => by
  cases r with
  | cons r1 r2 =>
  cases r2
  cases r1 with
  | @tup a xs _ ha rl => exact ⟨a, xs, rfl, .inr ⟨ex_t vw_le ha, q _ H _ o .refl (.tup ha rl) k⟩⟩
/-- list(x): a new list -/
def rListOf (K : PySem.W.Frag) : List V → Hp → VK → Prop := fun xs H Q => ∃ p ys, xs = [.ref p] ∧ (SqL K H p ys ∨ SqT K H p ys) ∧ ∀ l, H l = none → Q (.ref l) (upd H l (.lst ys))
theorem g_fresh_of {c : Bc} {σ : St} {H H1 : Hp} (o1 : Ok K c ρ σ H1) (l : Le c ρ σ H H1) {p : Addr} (hp : H1 p = none) : H p = none := by
  cases e : H p with
  | none => rfl
  | some ob =>
    have nv := o1.vis (w := false) hp
    rw [l p ob (fun z => nv (.inr (by rw [if_neg Bool.false_ne_true]; exact z.pr))) e] at hp
    cases hp
theorem slr_new {c : Bc} {σ : St} {H1 : Hp} {p : Addr} {us : List V} {xs : List Dat} (hp : H1 p = none) (r1 : RepL K (sv c ρ σ H1) us xs) : SlR K (hid (fun b => b = p) (sv c ρ σ (upd H1 p (.lst us)))) (upd H1 p (.lst us)) (.own xs) (some (.ref p)) :=
  ⟨p, us, rfl, upd_same, r1.mono fun b ob hb => by
    have nb : b ≠ p := fun z => by rw [z] at hb; rw [vw_le p _ hb] at hp; cases hp
    exact hid_some.mpr ⟨nb, (Le.vw (w := false) (c := c) (ρ := ρ) (σ := σ) (Ex.new hp).le) b ob hb⟩⟩
theorem gn_list {RS : Slot → Prop} (h : GA K false ρ t fun xs => ∃ ds, (xs = [.lst ds] ∨ xs = [.tup ds]) ∧ RS (.own ds)) : GN K ρ (tCB (rListOf K) t) RS := fun c σ H o Q q =>
  h c σ H o _ fun us H1 xs o1 l1 r1 ⟨ds, e, k⟩ => by
    rcases e with rfl | rfl
    · cases r1 with
      | cons r1 r2 =>
      cases r2
      cases r1 with
      | @lst a xs _ ha rl => exact ⟨a, xs, rfl, .inl (.inl (.inl (vw_le a _ ha))), fun p hp => q p _ (.own ds) (o1.ex (Ex.new hp)) (l1.trans (Ex.new hp).le) (g_fresh_of o1 l1 hp) (slr_new hp rl) rfl k⟩
    · cases r1 with
      | cons r1 r2 =>
      cases r2
      cases r1 with
      | @tup a xs _ ha rl => exact ⟨a, xs, rfl, .inr (ex_t vw_le ha), fun p hp => q p _ (.own ds) (o1.ex (Ex.new hp)) (l1.trans (Ex.new hp).le) (g_fresh_of o1 l1 hp) (slr_new hp rl) rfl k⟩
/-- list(x), x an own list -/
theorem gn_listO {RS : Slot → Prop} {i : Nat} {ds : List Dat} (he : ρ[i]? = some (.own ds)) (k : RS (.own ds)) : GN K ρ (tCB (rListOf K) (tCons (tVar i) tNil)) RS := fun c σ H o Q q => by
  obtain ⟨v, e, a, xs, rfl, ha, rl⟩ := o.get he
  exact ⟨_, e, a, xs, rfl, .inl (.inl (.inl ha)), fun p hp => q p _ (.own ds) (o.ex (Ex.new hp)) (Ex.new hp).le hp (slr_new hp rl) rfl k⟩
/-- tuple(x), x an own list -/
theorem g_tupleO {i : Nat} {ds : List Dat} (he : ρ[i]? = some (.own ds)) (k : R (.tup ds)) : G K w ρ (tCB (rTupOf K) (tCons (tVar i) tNil)) R := fun c σ H o Q q => by
  obtain ⟨v, e, a, xs, rfl, ha, rl⟩ := o.get he
  exact ⟨_, e, a, xs, rfl, .inl ⟨.inl (.inl ha), fun p hp => q _ _ _ (o.ex (Ex.new hp)) (Ex.new hp).le (.tup (.inl (.inl (o.vw_new hp))) ((rl.mono vw_up2).mono (Le.vw (Ex.new hp).le))) k⟩⟩
/-- x + y with an own list on the left -/
theorem gn_catO {RS : Slot → Prop} {i : Nat} {ds : List Dat} (he : ρ[i]? = some (.own ds)) (h : G K false ρ tb fun y => ∃ es, y = .lst es ∧ ds.length + es.length ≤ 1000000 ∧ RS (.own (ds ++ es))) : GN K ρ (tOp rCat (tVar i) tb) RS := fun c σ H o Q q => by
  obtain ⟨v, e, a, xs, rfl, ha, rl⟩ := o.get he
  refine ⟨_, e, h c σ H o _ fun v H2 d o2 l r ⟨es, ed, hl, k⟩ => ?_⟩
  subst ed
  obtain ⟨v', e', a', xs', q1, ha', rl'⟩ := o2.get he
  rw [e] at e'
  cases e'
  cases q1
  cases r with
  | @lst b ys _ hb ry => exact ⟨a, b, xs', ys, rfl, rfl, ha', vw_le b _ hb, by rw [rl'.length, ry.length]; exact big hl, fun p hp => q p _ (.own _) (o2.ex (Ex.new hp)) (l.trans (Ex.new hp).le) (g_fresh_of o2 l hp) (slr_new hp (rl'.append ry)) rfl k⟩

/-! ### texts -/
def endsW (a b : List Nat) : Bool := Txt.endswith (S a) (S b)
def startsW (a b : List Nat) : Bool := Txt.startswith (S a) (S b)
theorem g_ends (h : G K true ρ ta fun x => ∃ a, x = .str a ∧ G K true ρ tb fun y => ∃ b, y = .str b ∧ R (.bl (endsW a b))) : G K w ρ (tM1 rEnds ta tb) R := fun c σ H o Q q =>
  h c σ H o _ fun v H1 d o1 l1 r1 ⟨a, e, h1⟩ => by
    subst e
    cases r1
    exact ⟨⟨_, rfl⟩, h1 c σ H1 o1 _ fun v H2 d o2 l2 r2 ⟨b, e, k⟩ => by
      subst e
      cases r2
      exact ⟨S a, S b, rfl, rfl, q _ H2 _ o2 (l1.trans l2) (.bl _) k⟩⟩
theorem g_starts (h : G K true ρ ta fun x => ∃ a, x = .str a ∧ G K true ρ tb fun y => ∃ b, y = .str b ∧ R (.bl (startsW a b))) : G K w ρ (tM1 rStarts ta tb) R := fun c σ H o Q q =>
  h c σ H o _ fun v H1 d o1 l1 r1 ⟨a, e, h1⟩ => by
    subst e
    cases r1
    exact ⟨⟨_, rfl⟩, h1 c σ H1 o1 _ fun v H2 d o2 l2 r2 ⟨b, e, k⟩ => by
      subst e
      cases r2
      exact ⟨S a, S b, rfl, rfl, q _ H2 _ o2 (l1.trans l2) (.bl _) k⟩⟩
def joinW (a : List Nat) (ws : List (List Nat)) : List Nat := (Txt.join (S a) (ws.map S)).cps.toList
theorem g_join (h : G K true ρ ta fun x => ∃ a, x = .str a ∧ G K true ρ tb fun y => ∃ ws : List (List Nat), y = .lst (ws.map .str) ∧ (ws.map List.length).sum + ws.length * a.length ≤ 16777216 ∧ R (.str (joinW a ws))) :
    G K w ρ (tM1 (rJoin K) ta tb) R := fun c σ H o Q q =>
  h c σ H o _ fun v H1 d o1 l1 r1 ⟨a, e, h1⟩ => by
    subst e
    cases r1
    exact ⟨⟨_, rfl⟩, h1 c σ H1 o1 _ fun v H2 d o2 l2 r2 ⟨ws, e, hz, k⟩ => by
      subst e
      cases r2 with
      | @lst p xs _ hp rl =>
      refine ⟨S a, p, ws.map S, rfl, rfl, .inl (.inl (.inl ?_)), ?_, ?_⟩
      · rw [List.map_map]
        have := rl.strs
        have e2 : (V.str ∘ S) = fun w : List Nat => V.str ⟨w.toArray⟩ := rfl
        rw [e2, ← this]
        exact vw_le p _ hp
      · rw [List.map_map, List.length_map, S_len]
        have e2 : ((fun x : Str => x.length) ∘ S) = List.length := funext fun w => S_len w
        rw [e2]
        exact hz
      · have : Rep K (vw c w ρ σ H2) (.str (Txt.join (S a) (ws.map S))) (.str (joinW a ws)) := by
          have h := Rep.str (K := K) (B := vw c w ρ σ H2) (joinW a ws)
          unfold joinW at h ⊢
          rw [Array.toArray_toList] at h
          exact h
        exact q _ H2 _ o2 (l1.trans l2) this k⟩

/-! ### truth -/
def tTr (K : PySem.W.Frag) (ta : TE) : TT := fun σ H Q => ta σ H fun x H' => ∃ k, TruV K x H' k ∧ Q k H'
/-- the truth of data -/
inductive TruD : Dat → Bool → Prop
  | non : TruD .non false
  | bl (b : Bool) : TruD (.bl b) b
  | int (i : Int) : TruD (.int i) (i != 0)
  | str (s : List Nat) (h : s.length ≤ 1000000) : TruD (.str s) (!s.isEmpty)
  | tup (ds : List Dat) : TruD (.tup ds) (!ds.isEmpty)
  | lst (ds : List Dat) : TruD (.lst ds) (!ds.isEmpty)
  | dk (ds : List (DKey × Dat)) : TruD (.dk ds) (!ds.isEmpty)
theorem gt_tr {RT : Bool → Prop} (h : G K true ρ ta fun x => ∃ b, TruD x b ∧ RT b) : GT K ρ (tTr K ta) RT := fun c σ H o Q q =>
  h c σ H o _ fun v H1 d o1 l1 r1 ⟨b, hb, k⟩ => by
    refine ⟨b, ?_, q b H1 o1 l1 k⟩
    cases hb with
    | non => cases r1; rfl
    | bl b => cases r1; rfl
    | int i => cases r1; rfl
    | str s h =>
      cases r1
      refine ⟨by rw [S_len]; exact big h, ?_⟩
      rw [S_len]
      cases s with
      | nil => rfl
      | cons a s =>
        simp [bne]
        omega
    | tup ds =>
      cases r1 with
      | @tup a xs _ ha rl =>
      refine .inr (.inl ⟨xs, ex_t vw_le ha, ?_⟩)
      cases rl <;> rfl
    | lst ds =>
      cases r1 with
      | @lst a xs _ ha rl =>
      refine .inl ⟨xs, .inl (.inl (vw_le a _ ha)), ?_⟩
      cases rl <;> rfl
    | dk ds =>
      cases r1 with
      | @dk a xs _ ha rl =>
      refine .inr (.inr ⟨xs, vw_le a _ ha, ?_⟩)
      cases rl <;> rfl

/-! ### chains -/
theorem g_chain {r r' : R2} (h : G K true ρ ta fun x => G K true ρ tb fun y => Op2 K true true ρ r x y fun z => ∃ k, z = .bl k ∧ (k = true → G K true ρ tc fun u => Op2 K true w ρ r' y u R) ∧ (k = false → R (.bl false))) : G K w ρ (tChain r r' ta tb tc) R := fun c σ H o Q q =>
  h c σ H o _ fun u H1 x o1 l1 r1 h1 => h1 c σ H1 o1 _ fun v H2 y o2 l2 r2 h2 => h2 c σ H2 u v o2 (r1.mono l2.vw) r2 _ fun z H3 d o3 l3 r3 ⟨k, e, k1, k2⟩ => by
    subst e
    cases r3
    refine ⟨k, rfl, ?_⟩
    cases k with
    | true =>
      rw [if_pos rfl]
      exact k1 rfl c σ H3 o3 _ fun x H4 d o4 l4 r4 h4 => h4 c σ H4 v x o4 (r2.mono (l3.trans l4).vw) r4 Q fun z H5 d o5 l5 r5 h5 => q z H5 d o5 ((((l1.trans l2).trans l3).trans l4).trans l5) r5 h5
    | false =>
      rw [if_neg Bool.false_ne_true]
      exact q _ H3 _ o3 ((l1.trans l2).trans l3) (.bl false) (k2 rfl)

/-! ### fields -/
theorem g_fld {f : Str} {C : Addr} (cl : Cls K C) (na : NoAttr K C f) (h : G K w ρ ta fun x => ∃ fs d, x = .obj C fs ∧ fs.lookup f = some d ∧ R d) : G K w ρ (tFld K ta f) R := fun c σ H o Q q =>
  h c σ H o _ fun v H1 d o1 l1 r1 ⟨fs, d', e, hl, k⟩ => by
    subst e
    cases r1 with
    | @obj a _ dx xs _ ha rf =>
    obtain ⟨y, hy, ry⟩ := rf.lookup hl
    exact ⟨a, C, dx, xs, y, rfl, vw_le a _ ha, cl, na, hy, q y H1 d' o1 l1 ry k⟩
/-- self.f within an __init__ -/
theorem g_fldI {f : Str} {i : Nat} {a C : Addr} {fs : List (Str × Dat)} {d : Dat} (cl : Cls K C) (na : NoAttr K C f) (he : ρ[i]? = some (.ins a C fs)) (hl : fs.lookup f = some d) (k : R d) : G K w ρ (tFld K (tVar i) f) R := fun c σ H o Q q => by
  obtain ⟨v, e, dx, xs, ev, hx, rf⟩ := o.get he
  subst ev
  obtain ⟨y, hy, ry⟩ := rf.lookup hl
  exact ⟨_, e, _, C, dx, xs, y, rfl, hx, cl, na, hy, q y H d o .refl (ry.mono vw_up2) k⟩
end

section
variable {K : KB} {w : Bool} {ρ : LS} {ta tb te ty td tx : TE} {t u : TS} {N : LS → Prop} {R : Ret → LS → Prop} {B C : LS → Prop}
theorem run_fldI {f : Str} {i : Nat} {a Cl : Addr} {fs : List (Str × Dat)} (cl : Cls K Cl) (na : NoAttr K Cl f) (he : ρ[i]? = some (.ins a Cl fs)) (hz : fs.length < 1000) (h : G K false ρ te fun d => N (ρ.set i (.ins a Cl (putD f d fs)))) : Run K ρ (sFld K (tVar i) te f) N R B C := fun c D is σ H o =>
  h c σ H o _ fun v H1 d o1 l1 r1 k => by
    obtain ⟨v', e, dx, xs, rfl, hx, rf⟩ := o1.get he
    exact ⟨_, e, a, Cl, dx, xs, rfl, hx, cl, na, by rw [rf.length]; exact hz, is.nx _ _ _ (o1.write (s' := .ins a Cl (putD f d fs)) he e rfl rfl ⟨dx, _, rfl, upd_same, putF_rep r1 rf⟩) k⟩
/-- xs.append(e) -/
theorem run_app {i : Nat} {ds : List Dat} (he : ρ[i]? = some (.own ds)) (h : G K false ρ te fun d => ds.length < 1000000 ∧ N (ρ.set i (.own (ds ++ [d])))) : Run K ρ (tDrop (tBM K "list" rAppend (tVar i) (tCons te tNil))) N R B C := fun c D is σ H o => by
  obtain ⟨v, e, a, xs, rfl, ha, rl⟩ := o.get he
  refine ⟨_, e, .inl ⟨rfl, _, SqL.of ha⟩, h c σ H o _ fun v H1 d o1 l1 r1 k => ?_⟩
  obtain ⟨v', e', a', xs', q1, ha', rl'⟩ := o1.get he
  rw [e] at e'
  cases e'
  cases q1
  exact ⟨a, xs', v, rfl, rfl, ha', by rw [rl'.length]; exact bigL k.1, is.nx _ _ _ (o1.write (s' := .own (ds ++ [d])) he e rfl rfl ⟨a, _, rfl, upd_same, rl'.append (.one r1)⟩) k.2⟩
/-- y = xs.pop() -/
theorem run_pop {i j : Nat} {ds : List Dat} {d : Dat} (he : ρ[i]? = some (.own (ds ++ [d]))) (k : N ((ρ.set i (.own ds)).set j (.d d))) : Run K ρ (tAsg (tBM0 K "list" rPop (tVar i)) (gName j)) N R B C := fun c D is σ H o => by
  obtain ⟨v, e, a, xs, rfl, ha, rl⟩ := o.get he
  have hlen := rl.length
  rw [List.length_append, List.length_singleton] at hlen
  obtain ⟨y, hy, ry⟩ := rl.get (i := ds.length) (d := d) (by simp)
  have e1 : xs[xs.length - 1]? = some y := by
    rw [hlen]
    exact hy
  have rd : RepL K (sv c ρ σ H) xs.dropLast ds := by
    have h := rl.take ds.length
    have e2 : (ds ++ [d]).take ds.length = ds := by simp
    rw [e2] at h
    rw [List.dropLast_eq_take, hlen]
    exact h
  refine ⟨_, e, .inl ⟨rfl, _, SqL.of ha⟩, a, xs, y, rfl, rfl, ha, e1, ?_⟩
  have o1 : Ok K c (ρ.set i (.own ds)) σ (upd H a (.lst xs.dropLast)) := o.write he e rfl rfl ⟨a, _, rfl, upd_same, rd⟩
  refine is.nx _ _ _ (o1.setD (s := .d d) (v := some y) rfl ⟨y, rfl, ry.mono ?_⟩) k
  have hpr : Pr ρ σ a := ⟨i, _, _, he, e, rfl⟩
  refine hid_ex fun b ob hb e3 => ?_
  have hb2 : ¬ Pr ρ σ b := fun z => hb (.inr (by rw [if_neg Bool.false_ne_true]; exact z))
  refine ⟨fun z => ?_, by rw [upd_ne fun z => hb2 (by rw [z]; exact hpr)]; exact e3⟩
  rcases z with z | z
  · exact hb (.inl z)
  · rw [if_neg Bool.false_ne_true] at z
    obtain ⟨m, s1, v1, h1, h2, h3⟩ := z
    rcases set_get h1 with ⟨z, e4, _⟩ | ⟨z, e4⟩
    · subst z
      rw [e] at h2
      cases h2
      rw [e4] at h3
      cases h3
      exact hb2 hpr
    · exact hb2 ⟨m, s1, v1, e4, h2, h3⟩
/-- xs.pop() alone -/
theorem run_popD {i : Nat} {ds : List Dat} {d : Dat} (he : ρ[i]? = some (.own (ds ++ [d]))) (k : N (ρ.set i (.own ds))) : Run K ρ (tDrop (tBM0 K "list" rPop (tVar i))) N R B C := fun c D is σ H o => by
  obtain ⟨v, e, a, xs, rfl, ha, rl⟩ := o.get he
  have hlen := rl.length
  rw [List.length_append, List.length_singleton] at hlen
  obtain ⟨y, hy, ry⟩ := rl.get (i := ds.length) (d := d) (by simp)
  have e1 : xs[xs.length - 1]? = some y := by
    rw [hlen]
    exact hy
  have rd : RepL K (sv c ρ σ H) xs.dropLast ds := by
    have h := rl.take ds.length
    have e2 : (ds ++ [d]).take ds.length = ds := by simp
    rw [e2] at h
    rw [List.dropLast_eq_take, hlen]
    exact h
  exact ⟨_, e, .inl ⟨rfl, _, SqL.of ha⟩, a, xs, y, rfl, rfl, ha, e1, is.nx _ _ _ (o.write (s' := .own ds) he e rfl rfl ⟨a, _, rfl, upd_same, rd⟩) k⟩
/-- xs[j] = e -/
theorem run_setL {i : Nat} {ds : List Dat} (he : ρ[i]? = some (.own ds)) (h : G K false ρ te fun d => G K true ρ ty fun y => ∃ k j, y = .int k ∧ ixN ds.length k = some j ∧ N (ρ.set i (.own (ds.set j d)))) : Run K ρ (tAsg te (gSub (tVar i) ty rSetL)) N R B C := fun c D is σ H o =>
  h c σ H o _ fun v H1 d o1 l1 r1 h1 => by
    obtain ⟨v', e', a', xs', rfl, ha', rl'⟩ := o1.get he
    refine ⟨_, e', h1 c σ H1 o1 _ fun v2 H2 d2 o2 l2 r2 ⟨k, j, e, hj, kn⟩ => ?_⟩
    subst e
    cases r2
    obtain ⟨v3, e3, a3, xs3, q3, ha3, rl3⟩ := o2.get he
    rw [e'] at e3
    cases e3
    cases q3
    exact ⟨a', xs3, k, j, rfl, rfl, ha3, by rw [rl3.length]; exact hj, is.nx _ _ _ (o2.write (s' := .own (ds.set j d)) he e' rfl rfl ⟨a', _, rfl, upd_same, RepL.set (r1.mono l2.vw) j rl3⟩) kn⟩
/-- d[k] = e -/
theorem run_dput {i : Nat} {kvs : List (DKey × Dat)} (he : ρ[i]? = some (.od kvs)) (h : G K false ρ te fun d => G K true ρ ty fun y => ∃ k, KeyD y k ∧ kvs.length < 1000000 ∧ N (ρ.set i (.od (putKV kvs k d)))) : Run K ρ (sDPut (tVar i) ty te) N R B C := fun c D is σ H o =>
  h c σ H o _ fun v H1 d o1 l1 r1 h1 => by
    obtain ⟨v', e', a', xs', rfl, ha', rl'⟩ := o1.get he
    refine ⟨_, e', h1 c σ H1 o1 _ fun v2 H2 d2 o2 l2 r2 ⟨k, hk, hz, kn⟩ => ?_⟩
    obtain ⟨v3, e3, a3, xs3, q3, ha3, rl3⟩ := o2.get he
    rw [e'] at e3
    cases e3
    cases q3
    have hv := hk.rep r2
    subst hv
    exact ⟨a', _, rfl, DPut.k ha3 (by rw [rl3.length]; exact bigL hz), is.nx _ _ _ (o2.write (s' := .od (putKV kvs k d)) he e' rfl rfl ⟨a', _, rfl, upd_same, rl3.put k (r1.mono l2.vw)⟩) kn⟩
end
end BV

end

section
set_option maxHeartbeats 4000000
namespace BV
open PySem L2

section
variable {X : Cx}
theorem op_addS : OpR X (binaryOp .Add) rAddS := op_add_str
theorem op_ltS : OpR X (compareOp .Lt) rLtS := op_lt_str
theorem op_geS : OpR X (compareOp .GtE) rGeS := op_ge_str
theorem call_listOf : CallR X (.type "list") (rListOf X.K) := call_list_of
theorem pt_tr {a : Expr} {ta : TE} (ha : PE X a ta) (he : ∀ whole, isTrue a X.env whole = (do let v ← whole; standAt a.pos; holding [v] (truthy v)) := by intro _; rfl) : PT X a (tTr X.K ta) := pt_truth ha he
/-- < of data that are alike -/
def rLtD (K : PySem.W.Frag) : R2 := fun x y H Q => ∃ d e, Dp K H x d ∧ Dp K H y e ∧ PySem.W.alike d e = true ∧ d ≠ .none ∧ d.depth ≤ 64 ∧ Q (.bl (PySem.W.dataLt d e)) H
theorem op_ltD (hu : X.A.units + 64 < cLine) : OpR X (compareOp .Lt) (rLtD X.K) := by
  intro pins s σ H x y v u Q I rx ry h
  obtain ⟨d, e, hd, he, h1, h2, h3, q⟩ := h
  obtain ⟨as, r1⟩ := Dp.reads I d x v hd rx
  obtain ⟨bs, r2⟩ := Dp.reads I e y u he ry
  have hm : min d.depth e.depth ≤ d.depth := Nat.min_le_left _ _
  exact PySem.W.rcLt_alike d e X.A s v u as bs r1 r2 h1 h2 (by omega) X.prog X.w X.xe _ ⟨.bl _, H, I, rfl, q⟩
end
section
variable {K : KB} {w w1 : Bool} {ρ : LS} {ta tb tc te ty td tx : TE} {R : Dat → Prop} {t : TA}
theorem o2_ltD {x y : Dat} (hx : pln x = true) (hy : pln y = true) (h1 : PySem.W.alike (toP x) (toP y) = true) (h2 : toP x ≠ .none) (h3 : (toP x).depth ≤ 64) (k : R (.bl (PySem.W.dataLt (toP x) (toP y)))) : Op2 K w1 w ρ (rLtD K) x y R := fun c σ H u v o r1 r2 Q q =>
  ⟨toP x, toP y, Dp.monoL vw_le _ _ (dp_of _ _ r1 hx), Dp.monoL vw_le _ _ (dp_of _ _ r2 hy), h1, h2, h3, q _ H _ o .refl (.bl _) k⟩
/-- texts by their size, then by their signs -/
def kLt (a b : List Nat) : Bool := decide (a.length < b.length) || (decide (a.length = b.length) && decide (a < b))
theorem lt_key (a b : List Nat) : PySem.W.dataLt (toP (.tup [.int (a.length : Int), .str a])) (toP (.tup [.int (b.length : Int), .str b])) = kLt a b := by
  unfold PySem.W.dataLt
  simp only [toP, toPs, PySem.W.keyToks, PySem.W.keyToksAll, List.cons_append, List.nil_append, PyProof.Rows.lex_cons, S_list]
  have h0 : ∀ n : Int, PyProof.Rows.itemOrd.blt (Sum.inl n) (Sum.inl n) = false := fun n => PyProof.Rows.itemOrd.irrefl _
  have h1 : PyProof.Rows.itemOrd.blt (Sum.inl (a.length : Int)) (Sum.inl (b.length : Int)) = decide (a.length < b.length) := by
    show decide ((a.length : Int) < (b.length : Int)) = _
    simp
  have h2 : PyProof.Rows.itemOrd.blt (Sum.inl (b.length : Int)) (Sum.inl (a.length : Int)) = decide (b.length < a.length) := by
    show decide ((b.length : Int) < (a.length : Int)) = _
    simp
  have h3 : PyProof.Rows.itemOrd.blt (Sum.inr a) (Sum.inr b) = decide (a < b) := rfl
  have h4 : PyProof.Rows.lexLt PyProof.Rows.itemOrd [] [] = false := rfl
  have lc := @PyProof.Rows.lex_cons PyProof.Rows.itemOrd
  rw [lc, lc, lc, lc, lc, h4, h0, h0, h1, h2, h3]
  have h5 : ∀ n : Int, PyProof.Rows.itemOrd.blt (Sum.inl n) (Sum.inl n) = false := h0
  simp only [Bool.false_or, Bool.not_false, Bool.true_and, Bool.and_false, Bool.or_false]
  unfold kLt
  by_cases e1 : a.length < b.length
  · simp [e1]
  · by_cases e2 : b.length < a.length
    · have e3 : ¬ a.length = b.length := by omega
      simp [e1, e2, e3]
    · have e3 : a.length = b.length := by omega
      simp [e1, e2, e3]
theorem o2_ltKey {a b : List Nat} (k : R (.bl (kLt a b))) : Op2 K w1 w ρ (rLtD K) (.tup [.int (a.length : Int), .str a]) (.tup [.int (b.length : Int), .str b]) R :=
  o2_ltD rfl rfl rfl (fun e => by cases e) (by show _ ≤ 64; simp [toP, toPs, PyData.depth, PyData.depthAll]) (by rw [lt_key]; exact k)
theorem rep_flatL {K : PySem.W.Frag} {B : Hp} {xs : List V} {ds : List Dat} : ∀ n : Nat, RepL K B xs ds → RepL K B (List.replicate n xs).flatten (List.replicate n ds).flatten
  | 0, _ => .nil
  | n + 1, r => by
    rw [List.replicate_succ, List.replicate_succ, List.flatten_cons, List.flatten_cons]
    exact r.append (rep_flatL n r)
theorem o2_rep {n : Int} {xs : List Dat} (h1 : -(2 ^ 63) ≤ n) (h2 : n < 2 ^ 63) (h3 : xs.length * n.toNat ≤ 1000000) (k : R (.lst (List.replicate n.toNat xs).flatten)) : Op2 K w w ρ rRep (.lst xs) (.int n) R := fun c σ H u v o r1 r2 Q q => by
  cases r2
  cases r1 with
  | @lst a us _ ha rl =>
  refine ⟨a, n, us, rfl, rfl, vw_le a _ ha, h1, h2, by rw [rl.length]; exact big h3, fun p hp => q _ _ _ (o.ex (Ex.new hp)) (Ex.new hp).le (.lst (o.vw_new hp) ?_) k⟩
  have r' := rl.mono (Le.vw (w := w) (c := c) (ρ := ρ) (σ := σ) (Ex.new (o := .lst (List.replicate n.toNat us).flatten) hp).le)
  exact rep_flatL n.toNat r'

/-! ### isinstance -/
def tyN : Dat → String
  | .non => "NoneType"
  | .bl _ => "bool"
  | .int _ => "int"
  | .str _ => "str"
  | .tup _ => "tuple"
  | .lst _ => "list"
  | .scr _ => "list"
  | .dk _ => "dict"
  | .dt _ => "dict"
  | .fk _ => "dict"
  | _ => ""
def bas : Dat → Bool
  | .obj _ _ => false
  | .oth _ => false
  | _ => true
theorem tyX {K : PySem.W.Frag} {B : Hp} {v : V} {x : Dat} (r : Rep K B v x) (hb : bas x = true) : TyX K B v (.type (tyN x)) := by
  cases r with
  | non => exact .base .non
  | bl b => exact .base (.bl b)
  | int i => exact .base (.int i)
  | str s => exact .base (.str _)
  | tup s _ =>
    rcases s with (s | ⟨o, s⟩) | ⟨o, _, _, h1, h2, _⟩
    · exact .base (.tup s)
    · exact .fTuple s
    · exact .kTuple h1 h2
  | lst s _ => exact .base (.lst s)
  | scr s =>
    rcases s with (s | ⟨o, s⟩) | ⟨o, _, _, h1, h2, _⟩
    · exact .base (.lst s)
    · exact .base (.frz s)
    · exact .kList h1 h2
  | dk s _ => exact .base (.dK s)
  | dt s _ => exact .base (.dT s)
  | fk s _ => exact .fDict s
  | obj _ _ => cases hb
  | oth v => cases hb
theorem TyX.mono {K : PySem.W.Frag} {B B' : Hp} (e : Ex B B') {v : V} {t : Value} (h : TyX K B v t) : TyX K B' v t := by
  cases h with
  | base b =>
    cases b with
    | non => exact .base .non
    | bl b => exact .base (.bl b)
    | int i => exact .base (.int i)
    | str s => exact .base (.str _)
    | flt x => exact .base (.flt _)
    | lst h => exact .base (.lst (e _ _ h))
    | frz h => exact .base (.frz (e _ _ h))
    | tup h => exact .base (.tup (e _ _ h))
    | dK h => exact .base (.dK (e _ _ h))
    | dT h => exact .base (.dT (e _ _ h))
    | ins h cl ha hn htk hm => exact .base (.ins (e _ _ h) cl ha hn htk hm)
  | byt b => exact .byt b
  | set h => exact .set (e _ _ h)
  | kList h c => exact .kList h c
  | kTuple h c => exact .kTuple h c
  | kDict h c => exact .kDict h c
  | fTuple h => exact .fTuple (e _ _ h)
  | fDict h => exact .fDict (e _ _ h)
theorem oc_isi {x : Dat} {n : String} {b : Bool} (hb : bas x = true) (hk : kitB (tyN x) n = some b) (k : R (.bl b)) : OpC K w1 w ρ (rIsi K) [x, .oth (.ty n)] R := fun c σ H us o r Q q => by
  cases r with
  | cons r1 r2 =>
  cases r2 with
  | cons r2 r3 =>
  cases r3
  cases r2
  exact ⟨_, .ty n, _, .type n, b, rfl, .ty n, TyX.mono vw_le (tyX r1 hb), kit_ty hk, q _ H _ o .refl (.bl _) k⟩
theorem g_oth {v : V} (k : R (.oth v)) : G K w ρ (tC v) R := fun c σ H o Q q => q _ H _ o .refl (.oth v) k

/-! ### a call of an instance -/
theorem spF_append {S : List Dat → (Dat → Prop) → Prop} : True := trivial
end
end BV

end

section
set_option maxHeartbeats 4000000
namespace BV
open PySem PySem.Spec L2
open PyProof.Rows (envOfC)

/-! ### repr of what stands alone -/
def rRepr : List V → Hp → VK → Prop := fun xs H Q => (∃ z : Str, xs = [.str z] ∧ (reprText z).length ≤ sizeLine ∧ Q (.str (reprText z)) H) ∨ (∃ b : Bool, xs = [.bl b] ∧ Q (.str (if b then "True" else "False")) H) ∨ (xs = [.non] ∧ Q (.str "None") H) ∨
  ∃ i : Int, xs = [.int i] ∧ i.natAbs.log2 < 1920 ∧ Q (.str (toString i)) H
section
variable {X : Cx}
theorem call_repr_ : CallR X (.builtin "repr") rRepr := by
  intro pins s σ H xs us Q I r h
  rcases h with ⟨z, rfl, hz, q⟩ | ⟨b, rfl, q⟩ | ⟨rfl, q⟩ | ⟨i, rfl, hz, q⟩
  · obtain ⟨u, rfl, t, rfl⟩ := vals1 r
    exact PySem.P.repr_of_str ⟨.str _, H, I.tok _, ⟨_, rfl⟩, q⟩ hz
  · obtain ⟨u, rfl, t⟩ := vals1 r
    cases (show u = Value.bool b from t)
    exact PySem.P.repr_of_bool ⟨.str _, H, I.tok _, ⟨_, rfl⟩, q⟩
  · obtain ⟨u, rfl, t⟩ := vals1 r
    cases (show u = Value.none from t)
    exact PySem.P.repr_of_none ⟨.str _, H, I.tok _, ⟨_, rfl⟩, q⟩
  · obtain ⟨u, rfl, t, rfl⟩ := vals1 r
    exact PySem.P.repr_of_int hz ⟨.str _, H, I.tok _, ⟨_, rfl⟩, q⟩
end
def reprW (s : List Nat) : List Nat := (reprText (S s)).cps.toList
theorem rep_str {K : PySem.W.Frag} {B : Hp} (z : Str) : Rep K B (.str z) (.str z.cps.toList) := by
  have h := Rep.str (K := K) (B := B) z.cps.toList
  rw [Array.toArray_toList] at h
  exact h
def sW (s : String) : List Nat := (Str.ofString s).cps.toList
section
variable {K : KB} {w w1 : Bool} {ρ : LS} {R : Dat → Prop}
theorem oc_repr_str {s : List Nat} (hl : s.length ≤ 1000000) (hc : ∀ c ∈ s, c < 16 ^ 8) (k : R (.str (reprW s))) : OpC K w1 w ρ rRepr [.str s] R := fun c σ H us o r Q q => by
  cases r with
  | cons r1 r2 =>
  cases r2
  cases r1
  refine .inl ⟨S s, rfl, ?_, q _ H _ o .refl (rep_str _) k⟩
  have h := PySem.StrLaws.reprText_len (S s) (by rw [S_list]; exact hc)
  have h2 : (S s).length ≤ 1000000 := by rw [S_len]; exact hl
  exact Nat.le_trans h (Nat.le_trans (show 10 * (S s).length + 2 ≤ 10000002 by omega) (by decide))
theorem oc_repr_bl {b : Bool} (k : R (.str (sW (if b then "True" else "False")))) : OpC K w1 w ρ rRepr [.bl b] R := fun c σ H us o r Q q => by
  cases r with
  | cons r1 r2 =>
  cases r2
  cases r1
  exact .inr (.inl ⟨b, rfl, q _ H _ o .refl (by cases b <;> exact rep_str _) k⟩)
theorem oc_repr_non (k : R (.str (sW "None"))) : OpC K w1 w ρ rRepr [.non] R := fun c σ H us o r Q q => by
  cases r with
  | cons r1 r2 =>
  cases r2
  cases r1
  exact .inr (.inr (.inl ⟨rfl, q _ H _ o .refl (rep_str _) k⟩))

/-! ### a call of an instance -/
theorem g_callO {X : Cx} {C : Addr} {S : List Dat → (Dat → Prop) → Prop} {E : XK} {tf : TE} {t : TA} (h : G K w ρ tf fun x => ∃ fs, x = .obj C fs ∧ GA K w ρ t fun ds => S (.obj C fs :: ds) R) : G K w ρ (StX.tCallO X C (spF K S) E tf t) R := fun c σ H o Q q =>
  h c σ H o _ fun v H1 d o1 l1 r1 ⟨fs, e, h1⟩ => by
    subst e
    cases r1 with
    | @obj a _ dx xs _ ha rf =>
    refine ⟨a, rfl, h1 c σ H1 o1 _ fun vs H2 ds o2 l2 r2 k => ⟨.inr ⟨dx, xs, vw_le a _ (l2.vw a _ ha)⟩, ?_⟩⟩
    exact ⟨_, .obj C fs :: ds, R, o2.trk, .cons (.obj (l2.vw a _ ha) (rf.mono l2.vw)) r2, k, fun v H' d e rv rd => q v H' d (o2.ex e) ((l1.trans l2).trans e.le) rv rd⟩
theorem fnR_of {K : PySem.W.Frag} {P : Program} {wd : World} {mg : Str → Option Value} {base : Heap} {k : Nat} {f : Addr} {fd : FuncData} {ps : List Str} {sp : Sp} (F : FnOk P wd K mg base CX0 k f fd ps sp) (b : Binds K fd ps []) : FnR P wd K mg base CX0 k f sp :=
  (F.raw b .nil).imp fun vs H Q E h => by rw [List.append_nil]; exact h

/-! ### comprehension slots -/
theorem np1 {j : Nat} {s0 : Slot} (h : ρ[j]? = some s0) (hp : ∀ v, pa s0 v = none) : ∀ i, i ∈ [j] → ∀ s, ρ[i]? = some s → ∀ v, pa s v = none := fun i hi s hs => by
  rw [List.mem_singleton] at hi
  subst hi
  rw [h] at hs
  cases hs
  exact hp
theorem np2 {j j2 : Nat} {s0 s2 : Slot} (h : ρ[j]? = some s0) (hp : ∀ v, pa s0 v = none) (h2 : ρ[j2]? = some s2) (hp2 : ∀ v, pa s2 v = none) : ∀ i, i ∈ [j, j2] → ∀ s, ρ[i]? = some s → ∀ v, pa s v = none := fun i hi s hs => by
  rcases List.mem_cons.mp hi with e | hi
  · subst e
    rw [h] at hs
    cases hs
    exact hp
  · exact np1 h2 hp2 i hi s hs
end
end BV

end

section
set_option maxHeartbeats 4000000
namespace BV
open PySem PySem.Spec L2
section
variable {K : KB} {w w1 : Bool} {ρ : LS} {ta tb te : TE} {t : TA} {R : Dat → Prop}
theorem e_int {i : Int} {P : Int → Prop} (h : P i) : ∃ j, Dat.int i = .int j ∧ P j := ⟨i, rfl, h⟩
theorem e_bl {i : Bool} {P : Bool → Prop} (h : P i) : ∃ j, Dat.bl i = .bl j ∧ P j := ⟨i, rfl, h⟩
theorem e_str {i : List Nat} {P : List Nat → Prop} (h : P i) : ∃ j, Dat.str i = .str j ∧ P j := ⟨i, rfl, h⟩
theorem e_tup {i : List Dat} {P : List Dat → Prop} (h : P i) : ∃ j, Dat.tup i = .tup j ∧ P j := ⟨i, rfl, h⟩
theorem e_lst {i : List Dat} {P : List Dat → Prop} (h : P i) : ∃ j, Dat.lst i = .lst j ∧ P j := ⟨i, rfl, h⟩
theorem e_scr {i : List Int} {P : List Int → Prop} (h : P i) : ∃ j, Dat.scr i = .scr j ∧ P j := ⟨i, rfl, h⟩
theorem e_dk {i : List (DKey × Dat)} {P : List (DKey × Dat) → Prop} (h : P i) : ∃ j, Dat.dk i = .dk j ∧ P j := ⟨i, rfl, h⟩
theorem e_obj {C : Addr} {i : List (Str × Dat)} {P : List (Str × Dat) → Prop} (h : P i) : ∃ j, Dat.obj C i = .obj C j ∧ P j := ⟨i, rfl, h⟩
theorem e_own {i : List Dat} {P : List Dat → Prop} (h : P i) : ∃ j, Slot.own i = .own j ∧ P j := ⟨i, rfl, h⟩
theorem e_i1 {a : Int} {P : Int → Prop} (h : P a) : ∃ i : Int, [Dat.int a] = [.int i] ∧ P i := ⟨a, rfl, h⟩
theorem e_i2 {a b : Int} {P : Int → Int → Prop} (h : P a b) : ∃ i j : Int, [Dat.int a, .int b] = [.int i, .int j] ∧ P i j := ⟨a, b, rfl, h⟩
theorem e_keyS {s : List Nat} {P : DKey → Prop} (h : P (.s s)) : ∃ k, KeyD (.str s) k ∧ P k := ⟨_, .s s, h⟩
theorem e_keyI {i : Int} {P : DKey → Prop} (h : P (.i i)) : ∃ k, KeyD (.int i) k ∧ P k := ⟨_, .i i, h⟩
theorem e_truL {ds : List Dat} {P : Bool → Prop} (h : P (!ds.isEmpty)) : ∃ b, TruD (.lst ds) b ∧ P b := ⟨_, .lst ds, h⟩
theorem e_truT {ds : List Dat} {P : Bool → Prop} (h : P (!ds.isEmpty)) : ∃ b, TruD (.tup ds) b ∧ P b := ⟨_, .tup ds, h⟩
theorem e_truB {b : Bool} {P : Bool → Prop} (h : P b) : ∃ c, TruD (.bl b) c ∧ P c := ⟨_, .bl b, h⟩
theorem e_truN {P : Bool → Prop} (h : P false) : ∃ c, TruD .non c ∧ P c := ⟨_, .non, h⟩
theorem e_truS {s : List Nat} {P : Bool → Prop} (hl : s.length ≤ 1000000) (h : P (!s.isEmpty)) : ∃ c, TruD (.str s) c ∧ P c := ⟨_, .str s hl, h⟩
theorem e_truI {i : Int} {P : Bool → Prop} (h : P (i != 0)) : ∃ c, TruD (.int i) c ∧ P c := ⟨_, .int i, h⟩
theorem c_len {xs : List Dat} {A : Prop} (hl : decide (xs.length ≤ 100000) = true) (h : A) : xs.length ≤ 100000 ∧ A := ⟨of_decide_eq_true hl, h⟩
theorem c_rng {j : Int} {A : Prop} (h1 : -(2 ^ 62) ≤ j) (h2 : j < 2 ^ 62) (h : A) : -(2 ^ 62) ≤ j ∧ j < 2 ^ 62 ∧ A := ⟨h1, h2, h⟩
theorem c_rng2 {i j : Int} {A : Prop} (h0 : -(2 ^ 62) ≤ i) (h3 : i < 2 ^ 62) (h1 : -(2 ^ 62) ≤ j) (h2 : j < 2 ^ 62) (h : A) : (-(2 ^ 62) ≤ i ∧ i < 2 ^ 62 ∧ -(2 ^ 62) ≤ j ∧ j < 2 ^ 62) ∧ A := ⟨⟨h0, h3, h1, h2⟩, h⟩
theorem c_lt6 {n : Nat} {A : Prop} (h1 : n < 1000000) (h : A) : n < 1000000 ∧ A := ⟨h1, h⟩
theorem c_le6 {n : Nat} {A : Prop} (h1 : n ≤ 1000000) (h : A) : n ≤ 1000000 ∧ A := ⟨h1, h⟩
theorem oc_isi_tup {ds : List Dat} {n : String} {b : Bool} (hk : kitB "tuple" n = some b) (k : R (.bl b)) : OpC K w1 w ρ (rIsi K) [.tup ds, .oth (.ty n)] R := oc_isi rfl hk k
theorem oc_isi_lst {ds : List Dat} {n : String} {b : Bool} (hk : kitB "list" n = some b) (k : R (.bl b)) : OpC K w1 w ρ (rIsi K) [.lst ds, .oth (.ty n)] R := oc_isi rfl hk k
theorem oc_isi_str {s : List Nat} {n : String} {b : Bool} (hk : kitB "str" n = some b) (k : R (.bl b)) : OpC K w1 w ρ (rIsi K) [.str s, .oth (.ty n)] R := oc_isi rfl hk k
theorem oc_isi_int {i : Int} {n : String} {b : Bool} (hk : kitB "int" n = some b) (k : R (.bl b)) : OpC K w1 w ρ (rIsi K) [.int i, .oth (.ty n)] R := oc_isi rfl hk k
theorem oc_isi_bl {i : Bool} {n : String} {b : Bool} (hk : kitB "bool" n = some b) (k : R (.bl b)) : OpC K w1 w ρ (rIsi K) [.bl i, .oth (.ty n)] R := oc_isi rfl hk k
theorem oc_isi_non {n : String} {b : Bool} (hk : kitB "NoneType" n = some b) (k : R (.bl b)) : OpC K w1 w ρ (rIsi K) [.non, .oth (.ty n)] R := oc_isi rfl hk k
theorem c_nt {A B : Prop} (h : B) : ((!true) = true → A) ∧ ((!true) = false → B) := ⟨fun z => (nomatch z), fun _ => h⟩
theorem c_nf {A B : Prop} (h : A) : ((!false) = true → A) ∧ ((!false) = false → B) := ⟨fun _ => h, fun z => nomatch z⟩
theorem c_tt {A B : Prop} (h : A) : (true = true → A) ∧ (true = false → B) := ⟨fun _ => h, fun z => nomatch z⟩
theorem c_ff {A B : Prop} (h : B) : (false = true → A) ∧ (false = false → B) := ⟨fun z => (nomatch z), fun _ => h⟩
theorem c_dec {p : Prop} [Decidable p] {A B : Prop} (h1 : p → A) (h2 : ¬ p → B) : (decide p = true → A) ∧ (decide p = false → B) := ⟨fun h => h1 (of_decide_eq_true h), fun h => h2 (of_decide_eq_false h)⟩
theorem c_nec {p : Prop} [Decidable p] {A B : Prop} (h1 : ¬ p → A) (h2 : p → B) : ((!decide p) = true → A) ∧ ((!decide p) = false → B) := ⟨fun h => h1 (by simpa using h), fun h => h2 (by simpa using h)⟩
theorem c_and {p q : Bool} {A B : Prop} (h : (p = true → q = true → A) ∧ ((p && q) = false → B)) : ((p && q) = true → A) ∧ ((p && q) = false → B) := ⟨fun z => by rw [Bool.and_eq_true] at z; exact h.1 z.1 z.2, h.2⟩
theorem g_ixL (h : G K w ρ ta fun x => G K w ρ tb fun y => Op2 K w w ρ (rIxL K) x y R) : G K w ρ (tOp (rIxL K) ta tb) R := g_opS h
theorem g_ixT (h : G K w ρ ta fun x => G K w ρ tb fun y => Op2 K w w ρ (rIxT K) x y R) : G K w ρ (tOp (rIxT K) ta tb) R := g_opS h
theorem g_cat (h : G K w ρ ta fun x => G K w ρ tb fun y => Op2 K w w ρ rCat x y R) : G K w ρ (tOp rCat ta tb) R := g_opS h
theorem g_rep (h : G K w ρ ta fun x => G K w ρ tb fun y => Op2 K w w ρ rRep x y R) : G K w ρ (tOp rRep ta tb) R := g_opS h
theorem g_catO {i : Nat} {ds : List Dat} (he : ρ[i]? = some (.own ds)) (h : G K false ρ tb fun y => ∃ es, y = .lst es ∧ ds.length + es.length ≤ 1000000 ∧ R (.lst (ds ++ es))) : G K w ρ (tOp rCat (tVar i) tb) R :=
  g_new (gn_catO he (h.mono fun d ⟨es, e, hl, k⟩ => ⟨es, e, hl, _, rfl, k⟩))
theorem g_tuple (h : GA K w ρ t fun xs => ∃ ds, (xs = [.lst ds] ∨ xs = [.tup ds]) ∧ R (.tup ds)) : G K w ρ (tCB (rTupOf K) t) R := g_cbS fun c σ H o Q q => h c σ H o Q fun vs H2 ds o2 l r ⟨ds', e, k⟩ => q vs H2 ds o2 l r (by
  rcases e with rfl | rfl
  · exact oc_tuple k
  · exact oc_tupleT k)
theorem e_tl {ds : List Dat} {P : List Dat → Prop} (h : P ds) : ∃ es, ([Dat.lst ds] = [.lst es] ∨ [Dat.lst ds] = [.tup es]) ∧ P es := ⟨ds, .inl rfl, h⟩
theorem e_tt {ds : List Dat} {P : List Dat → Prop} (h : P ds) : ∃ es, ([Dat.tup ds] = [.lst es] ∨ [Dat.tup ds] = [.tup es]) ∧ P es := ⟨ds, .inr rfl, h⟩
theorem g_list (h : GA K false ρ t fun xs => ∃ ds, (xs = [.lst ds] ∨ xs = [.tup ds]) ∧ R (.lst ds)) : G K w ρ (tCB (rListOf K) t) R :=
  g_new (gn_list fun c σ H o Q q => h c σ H o Q fun vs H2 ds o2 l r ⟨ds', e, k⟩ => q vs H2 ds o2 l r ⟨ds', e, _, rfl, k⟩)
theorem g_lc {wi : TI} {g : TG} {tt : TT} {te : TE} {vs : List Nat} (hn : ∀ i, i ∈ vs → ∀ s, ρ[i]? = some s → ∀ v, pa s v = none) (h : GI K false ρ wi fun ds => ds.length < 1000000 ∧ ∃ W : Nat → List Dat → Prop, W 0 [] ∧
    (∀ i x acc, ds[i]? = some x → W i acc → acc.length ≤ i → GC K vs (wipeS ρ vs) g x fun ρ2 => GT K ρ2 tt fun b => (b = true → G K false ρ2 te fun y => W (i + 1) (acc ++ [y])) ∧ (b = false → W (i + 1) acc)) ∧ ∀ acc, acc.length ≤ ds.length → W ds.length acc → R (.lst acc)) :
    G K w ρ (tLc wi g tt te vs) R := g_new (gn_lc hn fun c σ H o RK q => h c σ H o RK fun J H2 n Gj Y ds o2 l wk hl hG hY ⟨hz, W, h0, hs, hd⟩ => q J H2 n Gj Y ds o2 l wk hl hG hY ⟨hz, W, h0, hs, fun acc hl2 hw => ⟨acc, rfl, hd acc hl2 hw⟩⟩)
theorem gt_yes {RT : Bool → Prop} (k : RT true) : GT K ρ tYes RT := fun c σ H o Q q => q true H o .refl k
/-- a comprehension without a test whose items are f of what is walked -/
theorem g_lcMap {wi : TI} {g : TG} {te : TE} {vs : List Nat} (hn : ∀ i, i ∈ vs → ∀ s, ρ[i]? = some s → ∀ v, pa s v = none) (h : GI K false ρ wi fun ds => ds.length < 1000000 ∧ ∃ f : Dat → Dat,
    (∀ (i : Nat) (x : Dat), ds[i]? = some x → GC K vs (wipeS ρ vs) g x fun ρ2 => G K false ρ2 te fun y => y = f x) ∧ R (.lst (ds.map f))) : G K w ρ (tLc wi g tYes te vs) R :=
  g_lc hn fun c σ H o RK q => h c σ H o RK fun J H2 n Gj Y ds o2 l wk hl hG hY ⟨hz, f, hf, k⟩ => q J H2 n Gj Y ds o2 l wk hl hG hY ⟨hz, fun i acc => acc = (ds.take i).map f, rfl, fun i x acc hx hw _ => by
    subst hw
    intro c' σ' H' v o' r' Q' q'
    refine hf i x hx c' σ' H' v o' r' Q' fun ρ2 σ2 o2 e2 f2 k2 => q' ρ2 σ2 o2 e2 f2 (gt_yes ⟨fun _ => k2.mono fun y ey => ?_, fun z => nomatch z⟩)
    subst ey
    have hi : i < ds.length := (List.getElem?_eq_some_iff.mp hx).1
    rw [List.take_add_one, hx]
    simp, fun acc _ hw => by
    subst hw
    rw [List.take_length]
    exact k⟩
theorem run_retO {i : Nat} {ds : List Dat} {N : LS → Prop} {RR : Ret → LS → Prop} {B C : LS → Prop} (h : ρ[i]? = some (.own ds)) (k : RR (.d (.lst ds)) (ρ.set i (.d (.lst ds)))) : Run K ρ (tRet (tVar i)) N RR B C :=
  run_frz h (.inl ⟨ds, rfl, rfl⟩) (run_ret (g_var (by rw [List.getElem?_set_self (List.getElem?_eq_some_iff.mp h).1]) k))
theorem run_retOD {i : Nat} {ds : List (DKey × Dat)} {N : LS → Prop} {RR : Ret → LS → Prop} {B C : LS → Prop} (h : ρ[i]? = some (.od ds)) (k : RR (.d (.dk ds)) (ρ.set i (.d (.dk ds)))) : Run K ρ (tRet (tVar i)) N RR B C :=
  run_frz h (.inr (.inl ⟨ds, rfl, rfl⟩)) (run_ret (g_var (by rw [List.getElem?_set_self (List.getElem?_eq_some_iff.mp h).1]) k))
theorem rng0_get {n i : Nat} {d : Dat} (h : (rngI 0 n)[i]? = some d) : i < n ∧ d = .int (i : Int) := by
  obtain ⟨h1, h2⟩ := rngI_get' h
  rw [Int.zero_add] at h2
  exact ⟨h1, h2⟩
theorem at_nat {α : Type} {xs : List α} {i : Nat} {x : α} (h : xs[i]? = some x) : atI xs (i : Int) = some x := by
  have hi := (List.getElem?_eq_some_iff.mp h).1
  unfold atI ixN
  rw [if_pos (by omega), if_pos (by omega)]
  show xs[(i : Int).toNat]? = some x
  rw [Int.toNat_natCast, h]
theorem at_map {α β : Type} {f : α → β} {xs : List α} {i : Nat} {x : α} (h : xs[i]? = some x) : atI (xs.map f) (i : Int) = some (f x) := at_nat (by rw [List.getElem?_map, h]; rfl)
theorem map_get {α : Type} {f : α → Dat} {xs : List α} {i : Nat} {d : Dat} (h : (xs.map f)[i]? = some d) : ∃ x, xs[i]? = some x ∧ d = f x := by
  rw [List.getElem?_map] at h
  cases e : xs[i]? with
  | none => rw [e] at h; cases h
  | some x => rw [e] at h; cases h; exact ⟨x, rfl, rfl⟩
theorem take_snoc {α : Type} {xs : List α} {i : Nat} {x : α} (h : xs[i]? = some x) : xs.take (i + 1) = xs.take i ++ [x] := by
  rw [List.take_add_one, h]
  rfl
theorem get_lt {α : Type} {xs : List α} {i : Nat} {x : α} (h : xs[i]? = some x) : i < xs.length := (List.getElem?_eq_some_iff.mp h).1
theorem c_i0 {x y : Bool} {A B : Prop} (h : (x = true → A) ∧ (x = false → B)) : ((if false = true then y else x) = true → A) ∧ ((if false = true then y else x) = false → B) := h
theorem c_i1 {x y : Bool} {A B : Prop} (h : (y = true → A) ∧ (y = false → B)) : ((if true = true then y else x) = true → A) ∧ ((if true = true then y else x) = false → B) := h
theorem c_non {A B : Prop} (h : A) : (isNon .non = true → A) ∧ (isNon .non = false → B) := ⟨fun _ => h, fun z => nomatch z⟩
theorem c_str {s : List Nat} {A B : Prop} (h : B) : (isNon (.str s) = true → A) ∧ (isNon (.str s) = false → B) := ⟨fun z => (nomatch z), fun _ => h⟩
theorem c_tup {s : List Dat} {A B : Prop} (h : B) : (isNon (.tup s) = true → A) ∧ (isNon (.tup s) = false → B) := ⟨fun z => (nomatch z), fun _ => h⟩
theorem cut_from {α : Type} (s : List α) {a : Int} (h : 0 ≤ a) : cut s (some a) none = s.drop a.toNat := by
  obtain ⟨n, rfl⟩ := Int.eq_ofNat_of_zero_le h
  unfold cut
  rw [HT.sIx_nat, HT.sIx_none, Int.toNat_natCast, List.take_of_length_le (by rw [List.length_drop]; omega)]
  by_cases hn : n ≤ s.length
  · rw [Nat.min_eq_left hn]
  · rw [Nat.min_eq_right (by omega), List.drop_of_length_le (Nat.le_refl _), List.drop_of_length_le (by omega)]
theorem cut_to {α : Type} (s : List α) {a : Int} (h : 0 ≤ a) : cut s none (some a) = s.take a.toNat := by
  obtain ⟨n, rfl⟩ := Int.eq_ofNat_of_zero_le h
  unfold cut
  rw [HT.sIx_nat, HT.sIx_none, Int.toNat_natCast, List.drop_zero, Nat.sub_zero]
  by_cases hn : n ≤ s.length
  · rw [Nat.min_eq_left hn]
  · rw [Nat.min_eq_right (by omega), List.take_of_length_le (Nat.le_refl _), List.take_of_length_le (by omega)]
theorem cut_mid {α : Type} (s : List α) {a b : Int} (h : 0 ≤ a) (hb : 0 ≤ b) : cut s (some a) (some b) = (s.drop a.toNat).take (b.toNat - a.toNat) := by
  obtain ⟨n, rfl⟩ := Int.eq_ofNat_of_zero_le h
  obtain ⟨m, rfl⟩ := Int.eq_ofNat_of_zero_le hb
  unfold cut
  rw [HT.sIx_nat, HT.sIx_nat, Int.toNat_natCast, Int.toNat_natCast]
  by_cases hn : n ≤ s.length
  · rw [Nat.min_eq_left hn]
    by_cases hm : m ≤ s.length
    · rw [Nat.min_eq_left hm]
    · rw [Nat.min_eq_right (show s.length ≤ m by omega), List.take_of_length_le (by rw [List.length_drop]; omega), List.take_of_length_le (by rw [List.length_drop]; omega)]
  · rw [Nat.min_eq_right (show s.length ≤ n by omega), List.drop_of_length_le (Nat.le_refl _), List.drop_of_length_le (i := n) (by omega)]
    simp
theorem c_nnon {A B : Prop} (h : B) : ((!isNon .non) = true → A) ∧ ((!isNon .non) = false → B) := ⟨fun z => (nomatch z), fun _ => h⟩
theorem c_nstr {s : List Nat} {A B : Prop} (h : A) : ((!isNon (.str s)) = true → A) ∧ ((!isNon (.str s)) = false → B) := ⟨fun _ => h, fun z => nomatch z⟩
theorem c_ntup {s : List Dat} {A B : Prop} (h : A) : ((!isNon (.tup s)) = true → A) ∧ ((!isNon (.tup s)) = false → B) := ⟨fun _ => h, fun z => nomatch z⟩
theorem e_ret {x : Dat} {P : Dat → Prop} (h : P x) : ∃ d, Ret.d x = Ret.d d ∧ P d := ⟨x, rfl, h⟩
theorem cut_le {α : Type} (s : List α) (a b : Option Int) : (cut s a b).length ≤ s.length := by
  unfold cut
  rw [List.length_take, List.length_drop]
  omega
theorem c_dt {p : Prop} [Decidable p] {A B : Prop} (hc : p) (h : A) : (decide p = true → A) ∧ (decide p = false → B) := ⟨fun _ => h, fun z => absurd hc (of_decide_eq_false z)⟩
theorem c_df {p : Prop} [Decidable p] {A B : Prop} (hc : ¬ p) (h : B) : (decide p = true → A) ∧ (decide p = false → B) := ⟨fun z => absurd (of_decide_eq_true z) hc, fun _ => h⟩
theorem c_ndt {p : Prop} [Decidable p] {A B : Prop} (hc : p) (h : B) : ((!decide p) = true → A) ∧ ((!decide p) = false → B) := ⟨fun z => (by rw [decide_eq_true hc] at z; cases z), fun _ => h⟩
theorem c_ndf {p : Prop} [Decidable p] {A B : Prop} (hc : ¬ p) (h : A) : ((!decide p) = true → A) ∧ ((!decide p) = false → B) := ⟨fun _ => h, fun z => (by rw [decide_eq_false hc] at z; cases z)⟩
theorem at_zero {α : Type} {x : α} {xs : List α} : atI (x :: xs) 0 = some x := at_nat (i := 0) rfl
end
end BV

end

section
set_option maxHeartbeats 1000000
/-! The rules again with the fragment as a plain argument (needed inside comprehensions). -/
namespace BV
open PySem L2
section
variable {X : Cx}
theorem kIxT (K : PySem.W.Frag) (h : X.K = K) : IxR X (rIxT K) := h ▸ ix_tup
theorem kIxL (K : PySem.W.Frag) (h : X.K = K) : IxR X (rIxL K) := h ▸ ix_list
theorem kLen (K : PySem.W.Frag) (h : X.K = K) : CallR X (.builtin "len") (rLen K) := h ▸ call_len_
theorem kTupOf (K : PySem.W.Frag) (h : X.K = K) : CallR X (.type "tuple") (rTupOf K) := h ▸ call_tupOf
theorem kListOf (K : PySem.W.Frag) (h : X.K = K) : CallR X (.type "list") (rListOf K) := h ▸ call_listOf
theorem kJoin (K : PySem.W.Frag) (h : X.K = K) : MtR X "str.join" (rJoin K) := h ▸ mt_join_
theorem kIsi (K : PySem.W.Frag) (h : X.K = K) : CallR X (.builtin "isinstance") (rIsi K) := h ▸ call_isi
theorem kLtD (K : PySem.W.Frag) (h : X.K = K) (hu : X.A.units + 64 < cLine) : OpR X (compareOp .Lt) (rLtD K) := h ▸ op_ltD hu
theorem kEqD (K : PySem.W.Frag) (h : X.K = K) (hu : X.A.units + 64 < cLine) : OpR X (compareOp .Eq) (rEqD K) := h ▸ op_eqD hu
theorem kNeD (K : PySem.W.Frag) (h : X.K = K) (hu : X.A.units + 64 < cLine) : OpR X (compareOp .NotEq) (rNeD K) := h ▸ op_neD hu
theorem kInD (K : PySem.W.Frag) (h : X.K = K) (hu : X.A.units + 65 < cLine) : OpR X (compareOp .In) (rInD K) := h ▸ op_inD hu
theorem kNotInD (K : PySem.W.Frag) (h : X.K = K) (hu : X.A.units + 65 < cLine) : OpR X (compareOp .NotIn) (rNotInD K) := h ▸ op_notInD hu
variable {K : KB} {w : Bool} {ρ : LS} {R : Dat → Prop}
/-- a comprehension over what stands for xs, whose items are f of them -/
theorem g_lcF {α : Type} (κ f : α → Dat) {wi : TI} {g : TG} {te : TE} {vs : List Nat} (hn : ∀ i, i ∈ vs → ∀ s, ρ[i]? = some s → ∀ v, pa s v = none) (h : GI K false ρ wi fun ds => ∃ xs : List α, ds = xs.map κ ∧ xs.length < 1000000 ∧ (∀ x ∈ xs, GC K vs (wipeS ρ vs) g (κ x) fun ρ2 => G K false ρ2 te fun y => y = f x) ∧ R (.lst (xs.map f))) : G K w ρ (tLc wi g tYes te vs) R :=
  g_lc hn fun c σ H o RK q => h c σ H o RK fun J H2 n Gj Y ds o2 l wk hl hG hY ⟨xs, e, hz, hf, k⟩ => q J H2 n Gj Y ds o2 l wk hl hG hY ⟨by rw [e, List.length_map]; exact hz, fun i acc => acc = (xs.take i).map f, rfl, fun i x acc hx hw _ => by
    subst hw
    subst e
    obtain ⟨y, hy, rfl⟩ := map_get hx
    intro c' σ' H' v o' r' Q' q'
    refine hf y (List.mem_of_getElem? hy) c' σ' H' v o' r' Q' fun ρ2 σ2 o2 e2 f2 k2 => q' ρ2 σ2 o2 e2 f2 (gt_yes ⟨fun _ => k2.mono fun z ez => ?_, fun z => nomatch z⟩)
    subst ez
    rw [take_snoc hy, List.map_append]
    rfl, fun acc _ hw => by
    subst hw
    rw [e, List.length_map, List.take_length]
    exact k⟩
/-- the same with truths -/
theorem g_lcB {α : Type} (κ : α → Dat) (f : α → Bool) {wi : TI} {g : TG} {te : TE} {vs : List Nat} (hn : ∀ i, i ∈ vs → ∀ s, ρ[i]? = some s → ∀ v, pa s v = none) (h : GI K false ρ wi fun ds => ∃ xs : List α, ds = xs.map κ ∧ xs.length < 1000000 ∧ (∀ x ∈ xs, GC K vs (wipeS ρ vs) g (κ x) fun ρ2 => G K false ρ2 te fun y => y = .bl (f x)) ∧ R (.lst ((xs.map f).map .bl))) : G K w ρ (tLc wi g tYes te vs) R :=
  g_lcF κ (fun x => .bl (f x)) hn fun c σ H o RK q => h c σ H o RK fun J H2 n Gj Y ds o2 l wk hl hG hY ⟨xs, e, hz, hf, k⟩ => q J H2 n Gj Y ds o2 l wk hl hG hY ⟨xs, e, hz, hf, by rw [List.map_map] at k; exact k⟩
theorem upd2_ex {H : Hp} {p : Addr} {a b : HO} (hp : H p = none) : Ex H (upd (upd H p a) p b) := fun x o h => by
  by_cases e : x = p
  · subst e; rw [hp] at h; cases h
  · rw [upd_ne e, upd_ne e]; exact h
/-- a dict with one pair, its key a text -/
theorem gn_disp1 {x : Str} {v : V} {d : Dat} {RS : Slot → Prop} (hv : ∀ B, Rep K B v d) (h : RS (.od [(.s x.cps.toList, d)])) : GN K ρ (tDisp [(tC (.str x), tC v)]) RS := fun c σ H o Q q p hp =>
  ⟨upd_same, [((DKey.s x.cps.toList).toK, v)], by
    show [(V.str x, v)] = [(V.str (S x.cps.toList), v)]
    have : S x.cps.toList = x := by unfold S; rw [Array.toArray_toList]
    rw [this], Nat.le_of_ble_eq_true rfl, q p _ (.od [(.s x.cps.toList, d)]) (o.ex (upd2_ex hp)) (upd2_ex hp).le hp ⟨p, _, rfl, upd_same, .cons (k := .s x.cps.toList) (hv _) .nil⟩ rfl h⟩
theorem gn_dispV {i : Nat} {t : List Nat} {v : V} {d : Dat} {RS : Slot → Prop} (hi : ρ[i]? = some (.d (.str t))) (hv : ∀ B, Rep K B v d) (h : RS (.od [(.s t, d)])) : GN K ρ (tDisp [(tVar i, tC v)]) RS := fun c σ H o Q q p hp => by
  obtain ⟨u, e, u', rfl, r⟩ := o.get hi
  cases r
  exact ⟨_, e, upd_same, [((DKey.s t).toK, v)], rfl, Nat.le_of_ble_eq_true rfl, q p _ (.od [(.s t, d)]) (o.ex (upd2_ex hp)) (upd2_ex hp).le hp ⟨p, _, rfl, upd_same, .cons (k := .s t) (hv _) .nil⟩ rfl h⟩
/-- d[k] of a private dict -/
theorem g_dixO {ty : TE} {i : Nat} {kvs : List (DKey × Dat)} (he : ρ[i]? = some (.od kvs)) (h : G K true ρ ty fun y => ∃ k d, KeyD y k ∧ valD kvs k = some d ∧ R d) : G K w ρ (tDGet (tVar i) ty) R := fun c σ H o Q q => by
  obtain ⟨v, e, a, xs, rfl, ha, rl⟩ := o.get he
  refine ⟨_, e, h c σ H o _ fun v H2 dy o2 l r ⟨k, d, hk, hv, kr⟩ => ?_⟩
  obtain ⟨v', e', a', xs', q1, ha', rl'⟩ := o2.get he
  rw [e] at e'
  cases e'
  cases q1
  rcases rl'.val k with ⟨e1, e2⟩ | ⟨z, d', e1, e2, r2⟩
  · rw [hv] at e2; cases e2
  · rw [hv] at e2
    cases e2
    exact ⟨a, z, rfl, .inl ⟨xs', k.toK, .inl ha', hk.rep r, e1.symm⟩, q _ H2 _ o2 l (r2.mono vw_up2) kr⟩
theorem units65 {k : Nat} {A : Around} (r : Room k A) : A.units + 65 < cLine := by have := r.un; omega
theorem toPs_map {α : Type} (f : α → Dat) : ∀ xs : List α, toPs (xs.map f) = xs.map fun x => toP (f x)
  | [] => rfl
  | x :: xs => by
    show toP (f x) :: toPs (xs.map f) = _
    rw [toPs_map f xs]
    rfl
/-- texts of plain signs -/
def Lw (w : List Nat) : Prop := ∀ c ∈ w, c < 0x110000
theorem strOk_S {w : List Nat} (h : Lw w) : PySem.PyData.strOk (S w) = true := by
  unfold PySem.PyData.strOk
  rw [← Array.all_toList, S_list, List.all_eq_true]
  intro c hc
  exact decide_eq_true (h c hc)
theorem S_beq (a b : List Nat) : (S a == S b) = decide (a = b) := by
  by_cases h : a = b
  · subst h; simp
  · rw [decide_eq_false h, beq_eq_false_iff_ne]
    intro e
    have := congrArg (fun s : Str => s.cps.toList) e
    simp only [S_list] at this
    exact h this
theorem e_fld {C : Addr} {fs : List (Str × Dat)} {f : Str} {d : Dat} (hl : fs.lookup f = some d) (k : R d) : ∃ fs' d', Dat.obj C fs = .obj C fs' ∧ fs'.lookup f = some d' ∧ R d' := ⟨fs, d, rfl, hl, k⟩
/-- a source: what its cells hold is some number -/
theorem g_srcIx {i : Nat} {a : Addr} {k : Int} (he : ρ[i]? = some (.src a)) (hk : k = 0 ∨ k = 1 ∨ k = 2) (h : ∀ z : Int, R (.int z)) : G K w ρ (tOp (rIxL K) (tVar i) (tC (.int k))) R := fun c σ H o Q q => by
  obtain ⟨v, e, ev, n, s, m, ha⟩ := o.get he
  subst ev
  refine ⟨_, e, ?_⟩
  rcases hk with rfl | rfl | rfl
  · exact ⟨a, _, 0, .int n, rfl, rfl, .inl (.inl ha), rfl, q _ H _ o .refl (.int n) (h n)⟩
  · exact ⟨a, _, 1, .int s, rfl, rfl, .inl (.inl ha), rfl, q _ H _ o .refl (.int s) (h s)⟩
  · exact ⟨a, _, 2, .int m, rfl, rfl, .inl (.inl ha), rfl, q _ H _ o .refl (.int m) (h m)⟩
theorem run_srcSet {i : Nat} {a : Addr} {k : Int} {te : TE} {N B C : LS → Prop} {RR : Ret → LS → Prop} (he : ρ[i]? = some (.src a)) (hk : k = 0 ∨ k = 1 ∨ k = 2) (h : G K false ρ te fun d => ∃ z, d = .int z ∧ N (ρ.set i (.src a))) : Run K ρ (tAsg te (gSub (tVar i) (tC (.int k)) rSetL)) N RR B C := fun c D is σ H o =>
  h c σ H o _ fun v H1 d o1 l1 r1 ⟨z, ez, kn⟩ => by
    subst ez
    cases r1
    obtain ⟨v', e', ev, n, s, m, ha⟩ := o1.get he
    subst ev
    refine ⟨_, e', ?_⟩
    rcases hk with rfl | rfl | rfl
    · exact ⟨a, _, 0, 0, rfl, rfl, ha, rfl, is.nx _ _ _ (o1.write (s' := .src a) he e' rfl rfl ⟨rfl, z, s, m, upd_same⟩) kn⟩
    · exact ⟨a, _, 1, 1, rfl, rfl, ha, rfl, is.nx _ _ _ (o1.write (s' := .src a) he e' rfl rfl ⟨rfl, n, z, m, upd_same⟩) kn⟩
    · exact ⟨a, _, 2, 2, rfl, rfl, ha, rfl, is.nx _ _ _ (o1.write (s' := .src a) he e' rfl rfl ⟨rfl, n, s, z, upd_same⟩) kn⟩
theorem fmod_rng {z : Int} {m : Nat} (h : 0 < m) : ∃ d : Nat, z.fmod (m : Int) = (d : Int) ∧ d < m := by
  have h1 := Int.fmod_nonneg_of_pos z (b := (m : Int)) (by omega)
  have h2 := Int.fmod_lt_of_pos z (b := (m : Int)) (by omega)
  exact ⟨(z.fmod (m : Int)).toNat, by omega, by omega⟩
theorem fm64 {z N : Int} (h0 : 0 < N) (h : N ≤ 2 ^ 64) : -(2 ^ 64) < z.fmod N ∧ z.fmod N < 2 ^ 64 := by
  have h1 := Int.fmod_nonneg_of_pos z h0
  have h2 := Int.fmod_lt_of_pos z h0
  omega
theorem c_at0 {s : Slot} {A : Prop} (h : ρ[0]? = some s) (k : A) : ρ[0]? = some s ∧ A := ⟨h, k⟩
theorem bits_le {i : Int} {a : Nat} (h : i.natAbs < 2 ^ a) : Builtin.Int.intBits i ≤ a := by
  unfold Builtin.Int.intBits
  split
  · omega
  · rename_i hz
    have h0 : i.natAbs ≠ 0 := by
      intro e
      apply hz
      rw [Int.natAbs_eq_zero.mp e]
      rfl
    have := (Nat.log2_lt h0).mpr h
    omega
theorem lt_bits (i : Int) : i.natAbs < 2 ^ Builtin.Int.intBits i := by
  unfold Builtin.Int.intBits
  split
  · rename_i hz
    rw [beq_iff_eq] at hz
    subst hz
    decide
  · exact Nat.lt_log2_self
theorem bits_abs_shr {i : Int} {k b : Nat} (h : Builtin.Int.intBits i ≤ b) : Builtin.Int.intBits ((if i < 0 then -i else i) / 2 ^ k) ≤ b := by
  refine bits_le ?_
  have h1 := lt_bits i
  have h2 : 2 ^ Builtin.Int.intBits i ≤ 2 ^ b := Nat.pow_le_pow_right (by decide) h
  have e : (if i < 0 then -i else i) = (i.natAbs : Int) := by split <;> omega
  rw [e]
  have e2 : ((i.natAbs : Int) / 2 ^ k).natAbs = i.natAbs / 2 ^ k := by
    have : ((2 : Int) ^ k) = ((2 ^ k : Nat) : Int) := by rw [Int.natCast_pow]; rfl
    rw [this, ← Int.natCast_ediv, Int.natAbs_natCast]
  rw [e2]
  have := Nat.div_le_self i.natAbs (2 ^ k)
  omega
theorem g_slScrV {i : Nat} {s : List Int} {tl th : TO} (he : ρ[i]? = some (.d (.scr s))) (h : GO K ρ tl fun lo => GO K ρ th fun hi => R (.lst (cut (s.map Dat.int) lo hi))) : G K w ρ (tSl (rSlL K) (tVar i) tl th) R := g_slScr (g_var he ⟨s, rfl, h⟩)
theorem run_retSrc {t : TA} {N B C : LS → Prop} (h : GA K false ρ t fun xs => ∃ n s c : Int, xs = [.int n, .int s, .int c]) : Run K ρ (tRet (tLst t)) N (fun r _ => ∃ n s c : Int, r = Ret.n (.own [.int n, .int s, .int c])) B C :=
  run_retNew (gn_lst fun c σ H o Q q => h c σ H o Q fun vs H2 ds o2 l r ⟨n, s, m, e⟩ => q vs H2 ds o2 l r ⟨by rw [e]; exact Nat.le_of_ble_eq_true rfl, n, s, m, by rw [e]⟩)
/-- a comprehension that picks -/
theorem g_lcSel {α : Type} (κ : α → Dat) (p : α → Bool) {wi : TI} {g : TG} {tt : TT} {te : TE} {vs : List Nat} (hn : ∀ i, i ∈ vs → ∀ s, ρ[i]? = some s → ∀ v, pa s v = none) (h : GI K false ρ wi fun ds => ∃ xs : List α, ds = xs.map κ ∧ xs.length < 1000000 ∧ (∀ x ∈ xs, GC K vs (wipeS ρ vs) g (κ x) fun ρ2 => GT K ρ2 tt fun b => b = p x ∧ (b = true → G K false ρ2 te fun y => y = κ x)) ∧ R (.lst ((xs.filter p).map κ))) : G K w ρ (tLc wi g tt te vs) R :=
  g_lc hn fun c σ H o RK q => h c σ H o RK fun J H2 n Gj Y ds o2 l wk hl hG hY ⟨xs, e, hz, hf, k⟩ => q J H2 n Gj Y ds o2 l wk hl hG hY ⟨by rw [e, List.length_map]; exact hz, fun i acc => acc = ((xs.take i).filter p).map κ, rfl, fun i x acc hx hw _ => by
    subst hw
    subst e
    obtain ⟨y, hy, rfl⟩ := map_get hx
    have hsn : ((xs.take (i + 1)).filter p) = (xs.take i).filter p ++ (if p y = true then [y] else []) := by
      rw [take_snoc hy, List.filter_append]
      cases e : p y <;> simp [List.filter_cons, e]
    intro c' σ' H' v o' r' Q' q'
    refine hf y (List.mem_of_getElem? hy) c' σ' H' v o' r' Q' fun ρ2 σ2 o2 e2 f2 k2 => q' ρ2 σ2 o2 e2 f2 fun c3 σ3 H3 o3 Q3 q3 => k2 c3 σ3 H3 o3 Q3 fun b H4 o4 l4 ⟨hb, kb⟩ => q3 b H4 o4 l4 ⟨fun hbt => (kb hbt).mono fun z ez => ?_, fun hbf => ?_⟩
    · subst ez
      show _ = ((xs.take (i + 1)).filter p).map κ
      rw [hsn, if_pos (hb ▸ hbt), List.map_append]
      rfl
    · show _ = ((xs.take (i + 1)).filter p).map κ
      rw [hsn, if_neg (by rw [← hb, hbf]; decide), List.append_nil], fun acc _ hw => by
    subst hw
    rw [e, List.length_map, List.take_length]
    exact k⟩
/-- t[lo:hi], the whole of it too -/
theorem kSlA (K : PySem.W.Frag) (h : X.K = K) : L2.SlR X (rSlA K) := h ▸ sl_tupA
theorem g_slA {te : TE} {tl th : TO} (h : G K w ρ te fun x => ∃ s, x = .tup s ∧ GO K ρ tl fun lo => GO K ρ th fun hi => R (.tup (cut s lo hi))) : G K w ρ (tSl (rSlA K) te tl th) R := fun c σ H o Q q =>
  h c σ H o _ fun v H2 d o2 l r ⟨s, e, k⟩ => by
    subst e
    cases r with
    | @tup a xs _ ha rl =>
    refine k c σ H2 o2 _ fun lo H3 o3 l3 k3 => k3 c σ H3 o3 _ fun hi H4 o4 l4 k4 => ?_
    have e4 := (l3.trans l4).vw (w := w)
    refine ⟨a, xs, rfl, ex_t vw_le (ex_t e4 ha), fun hw => q _ _ _ o4 ((l.trans l3).trans l4) (.tup (ex_t e4 ha) ?_) k4, fun _ p hp => q _ _ _ (o4.ex (Ex.new hp)) (((l.trans l3).trans l4).trans (Ex.new hp).le) (.tup (.inl (.inl (o4.vw_new hp))) ?_) k4⟩
    · rw [rl.length] at hw
      have e5 : cut s lo hi = s := by
        unfold cut
        rw [hw.1, hw.2, List.drop_zero, Nat.sub_zero, List.take_length]
      rw [e5]
      exact rl.mono e4
    · exact (cutV_rep (rl.mono e4) lo hi).mono (Le.vw (Ex.new hp).le)
/-- a call of an instance, its reading without the place -/
def tCO (C : Addr) (sp : Sp) (E : XK) (tf : TE) (t : TA) : TE := fun σ H Q => tf σ H fun y H1 => ∃ a, y = V.ref a ∧ t σ H1 fun vs H2 => ((∃ dx vs, SlX.Slt H2 a C dx vs) ∨ ∃ dx fs, H2 a = some (.ins C dx fs)) ∧ sp (V.ref a :: vs) H2 Q E
theorem pe_cO {CX : CXT} {k : Nat} {C g : Addr} {sp : Sp} {E : XK} {e fe : Expr} {es : List Expr} {tf : TE} {t : TA} {pos : Pos} (hf : PE X fe tf) (c : StX.CallO X.K C g) (F : FnR X.prog X.w X.K X.mg X.base CX k g sp) (hr : Room k X.A) (hx : Passes CX X E) (ha : PA X (e :: es) t)
    (ht : eval (.Call fe (e :: es) [] pos) X.env = (do callWith pos (← eval fe X.env) [] (backTo pos (starEach (e :: es) X.env)) (backToKw pos (keywordEach [] X.env))) := by rfl)
    (he : starEach (e :: es) X.env = (false, eval e X.env) :: starEach es X.env := by rfl) (hpl : (backTo pos (starEach es X.env)).any (·.1) = false := by rfl) : PE X (.Call fe (e :: es) [] pos) (tCO C sp E tf t) := StX.pe_callO hf c F hr hx ha ht he hpl
theorem g_cO {C : Addr} {S : List Dat → (Dat → Prop) → Prop} {E : XK} {tf : TE} {t : TA} (h : G K w ρ tf fun x => ∃ fs, x = .obj C fs ∧ GA K w ρ t fun ds => S (.obj C fs :: ds) R) : G K w ρ (tCO C (spF K S) E tf t) R := fun c σ H o Q q =>
  h c σ H o _ fun v H1 d o1 l1 r1 ⟨fs, e, h1⟩ => by
    subst e
    cases r1 with
    | @obj a _ dx xs _ ha rf =>
    refine ⟨a, rfl, h1 c σ H1 o1 _ fun vs H2 ds o2 l2 r2 k => ⟨.inr ⟨dx, xs, vw_le a _ (l2.vw a _ ha)⟩, ?_⟩⟩
    exact ⟨_, .obj C fs :: ds, R, o2.trk, .cons (.obj (l2.vw a _ ha) (rf.mono l2.vw)) r2, k, fun v H' d e rv rd => q v H' d (o2.ex e) ((l1.trans l2).trans e.le) rv rd⟩
/-! ### a walk over a list or a tuple -/
def iSq (K : PySem.W.Frag) (tl : TE) : TI := fun σ H R => tl σ H fun x H1 => ∃ a, x = .ref a ∧ (((∃ xs, SqL K H1 a xs) ∧ R (Itl K a) H1) ∨ ((∃ xs, SqT K H1 a xs) ∧ R (Itt K a) H1))
theorem pi_sq {tg l : Expr} {tl : TE} (hl : PE X l tl) : PI X tg l (iSq X.K tl) := by
  refine ⟨fun pins s σ H R I h => ?_⟩
  refine thn (hl.run pins s σ H _ I h) fun v s1 ⟨x, H1, I1, r1, q1⟩ => ?_
  obtain ⟨a, e, q⟩ := q1
  subst e
  cases r1
  rcases q with ⟨⟨xs, hq⟩, q⟩ | ⟨⟨xs, hq⟩, q⟩
  · obtain ⟨its, rv, p, hz⟩ := I1.list hq
    refine wpAny_pyIter_list p.isList ?_
    refine ⟨s1.heap.objs.size, [s1.heap.objs.size], _, _, H1, rfl, I1.kept (t' := s1.toks) fun b o e => Heap.get?_push_of_some _ e, turn_list a _, ⟨_, Heap.get?_push_size _ rfl, rfl, rfl⟩, fun b hb => ?_, q⟩
    have e : b = s1.heap.objs.size := by simpa using hb
    subst e
    exact I1.fpOk (Nat.le_refl _) (I1.hok.fresh (Nat.le_refl _))
  · obtain ⟨its, rv, p, hz⟩ := I1.tuple hq
    refine wpAny_pyIter_tuple (show s1.heap.IsTuple a its.toArray from p) ?_
    refine ⟨s1.heap.objs.size, [s1.heap.objs.size], _, _, H1, rfl, I1.kept (t' := s1.toks) fun b o e => Heap.get?_push_of_some _ e, turn_tuple a _, ⟨_, Heap.get?_push_size _ rfl, rfl, rfl⟩, fun b hb => ?_, q⟩
    have e : b = s1.heap.objs.size := by simpa using hb
    subst e
    exact I1.fpOk (Nat.le_refl _) (I1.hok.fresh (Nat.le_refl _))
theorem gi_sq {tl : TE} {RI : List Dat → Prop} (h : G K w ρ tl fun d => ∃ ds, (d = .lst ds ∨ d = .tup ds) ∧ RI ds) : GI K w ρ (iSq K tl) RI := fun c σ H o RK q =>
  h c σ H o _ fun v H2 d o2 l r ⟨ds, e, k⟩ => by
    rcases e with e | e
    · subst e
      cases r with
      | @lst a xs _ ha rl =>
      refine ⟨a, rfl, .inl ⟨⟨xs, .inl (.inl (vw_le a _ ha))⟩, q _ H2 _ _ _ ds o2 l (walk_list (xs := xs)) rl.length.symm (fun H3 e => .inl (.inl (e a _ ha))) (fun i H3 x H' c' ρ' σ' hi o3 e y => ?_) k⟩⟩
      obtain ⟨y1, y2⟩ := y
      subst y1
      obtain ⟨d, e1, r1⟩ := rl.get' y2
      exact ⟨d, e1, o3, Ex.refl _, r1.mono e⟩
    · subst e
      cases r with
      | @tup a xs _ ha rl =>
      refine ⟨a, rfl, .inr ⟨⟨xs, ex_t vw_le ha⟩, q _ H2 _ _ _ ds o2 l (walk_tup (xs := xs)) rl.length.symm (fun H3 e => ex_t e ha) (fun i H3 x H' c' ρ' σ' hi o3 e y => ?_) k⟩⟩
      obtain ⟨y1, y2⟩ := y
      subst y1
      obtain ⟨d, e1, r1⟩ := rl.get' y2
      exact ⟨d, e1, o3, Ex.refl _, r1.mono e⟩
end
end BV

end

section
set_option maxHeartbeats 4000000
/-! Own special methods: truth, ==; properties. -/
namespace BV
open PySem PySem.Spec L2
open PyProof.Rows (isTrue_plain)
/-- an own special method -/
structure Spm (K : PySem.W.Frag) (C : Addr) (n : Str) (g : Addr) : Prop where
  at_ : PySem.W.findIn K (.ref C) n = some (some (.ref g))
  fn : PySem.W.isFn K (.ref g) = true
def tTrO (C : Addr) (sp : Sp) (E : XK) (ta : TE) : TT := fun σ H Q => ta σ H fun x H1 => ∃ a dx fs, x = .ref a ∧ H1 a = some (.ins C dx fs) ∧ sp [.ref a] H1 (fun v H2 => ∃ b, v = .bl b ∧ Q b H2) E
/-- x == y by x's own way -/
def rEqO (C : Addr) (sp : Sp) (E : XK) : R2 := fun x y H Q => ∃ a dx fs b dy gs, x = .ref a ∧ y = .ref b ∧ H a = some (.ins C dx fs) ∧ H b = some (.ins C dy gs) ∧ sp [.ref a, .ref b] H (fun v H2 => ∃ b, v = .bl b ∧ Q (.bl b) H2) E
section
variable {X : Cx} {CX : CXT} {k : Nat} {C g : Addr} {sp : Sp} {E : XK} {a : Expr} {ta : TE}
theorem pt_trO (ha : PE X a ta) (M : Spm X.K C "__bool__" g) (F : FnR X.prog X.w X.K X.mg X.base CX k g sp) (hr : Room k X.A) (hx : Passes CX X E)
    (he : ∀ whole, isTrue a X.env whole = (do let v ← whole; standAt a.pos; holding [v] (truthy v)) := by intro _; rfl) : PT X a (tTrO C sp E ta) := by
  refine ⟨fun pins s σ H Q I h => ?_⟩
  refine isTrue_plain (thn (ha.run pins s σ H _ I h) fun v s1 ⟨x, H1, I1, r1, a, dx, fs, ex, ea, q⟩ => ?_) (he _)
  subst ex
  obtain rfl : v = Value.ref a := r1
  obtain ⟨mA, O, _⟩ := ins_get I1.hok ea
  obtain ⟨od, J, _⟩ := O.look
  obtain ⟨m, hF⟩ := I1.fr
  refine PySem.W.truthy_K hF I1.ok.mod.kin J M.at_ M.fn (wpAny_mono (wpAny_call (run_fnR (us := [.ref a]) (vs := [.ref a]) F hr hx I1 (.cons rfl .nil) q)) (fun u s2 z => ?_) fun _ _ e => e)
  obtain ⟨v, H2, I2, rv, b, ev, q2⟩ := z
  subst ev
  cases (show u = Value.bool b from rv)
  exact ⟨H2, I2, q2⟩
theorem op_eqO (M : Spm X.K C "__eq__" g) (F : FnR X.prog X.w X.K X.mg X.base CX k g sp) (hr : Room k X.A) (hu : X.A.units < cLine) (hx : Passes CX X E) : OpR X (compareOp .Eq) (rEqO C sp E) := by
  intro pins s σ H x y v u Q I rx ry h
  obtain ⟨a, dx, fs, b, dy, gs, ex, ey, ea, eb, q⟩ := h
  subst ex ey
  obtain rfl : v = Value.ref a := rx
  obtain rfl : u = Value.ref b := ry
  obtain ⟨mA, J, _⟩ := ins_get I.hok ea
  obtain ⟨mB, J', _⟩ := ins_get I.hok eb
  obtain ⟨od, J, _⟩ := J.look
  obtain ⟨od', J', _⟩ := J'.look
  obtain ⟨m, hF⟩ := I.fr
  refine PySem.W.cmp_K (op := .Eq) (tb := .ref C) hu hF I.ok.mod.kin J J'.type (by simp [PySem.W.notFirst]) M.at_ M.fn (wpAny_mono (wpAny_call (run_fnR (us := [.ref a, .ref b]) (vs := [.ref a, .ref b]) F hr hx I (.cons rfl (.cons rfl .nil)) q)) (fun u s2 z => ?_) fun _ _ e => e)
  obtain ⟨v, H2, I2, rv, b, ev, q2⟩ := z
  subst ev
  cases (show u = Value.bool b from rv)
  exact ⟨.bl b, H2, I2, rfl, q2⟩
end
section
variable {K : KB} {w w1 : Bool} {ρ : LS} {R : Dat → Prop} {ta : TE}
theorem gt_trO {C : Addr} {S : List Dat → (Dat → Prop) → Prop} {E : XK} {RT : Bool → Prop} (h : G K true ρ ta fun x => ∃ fs, x = .obj C fs ∧ S [.obj C fs] fun d => ∃ b, d = .bl b ∧ RT b) : GT K ρ (tTrO C (spF K S) E ta) RT := fun c σ H o Q q =>
  h c σ H o _ fun v H1 d o1 l1 r1 ⟨fs, e, h1⟩ => by
    subst e
    cases r1 with
    | @obj a _ dx xs _ ha rf =>
    refine ⟨a, dx, xs, rfl, vw_le a _ ha, _, [.obj C fs], _, o1.trk (w := true), .cons (.obj ha rf) .nil, h1, fun v H' d e rv rd => ?_⟩
    obtain ⟨b, ed, rb⟩ := rd
    subst ed
    cases rv
    exact ⟨b, rfl, q b H' (o1.ex e) (l1.trans e.le) rb⟩
theorem o2_eqO {C : Addr} {S : List Dat → (Dat → Prop) → Prop} {E : XK} {fs gs : List (Str × Dat)} (h : S [.obj C fs, .obj C gs] fun d => ∃ b, d = .bl b ∧ R (.bl b)) : Op2 K w w1 ρ (rEqO C (spF K S) E) (.obj C fs) (.obj C gs) R := fun c σ H u v o r1 r2 Q q => by
  cases r1 with
  | @obj a _ dx xs _ ha rf =>
  cases r2 with
  | @obj b _ dy ys _ hb rg =>
  refine ⟨a, dx, xs, b, dy, ys, rfl, rfl, vw_le a _ ha, vw_le b _ hb, _, [.obj C fs, .obj C gs], _, o.trk (w := w), .cons (.obj ha rf) (.cons (.obj hb rg) .nil), h, fun v H' d e rv rd => ?_⟩
  obtain ⟨t, ed, rb⟩ := rd
  subst ed
  cases rv
  exact ⟨t, rfl, q _ H' _ (o.ex e) e.le (.bl t) rb⟩
/-- a property -/
theorem g_prop {C : Addr} {S : List Dat → (Dat → Prop) → Prop} {E : XK} (h : G K w ρ ta fun x => ∃ fs, x = .obj C fs ∧ S [.obj C fs] R) : G K w ρ (tProp C (spF K S) [] E ta) R := fun c σ H o Q q =>
  h c σ H o _ fun v H1 d o1 l1 r1 ⟨fs, e, h1⟩ => by
    subst e
    cases r1 with
    | @obj a _ dx xs _ ha rf =>
    exact ⟨a, dx, xs, rfl, vw_le a _ ha, _, [.obj C fs], R, o1.trk (w := w), .cons (.obj ha rf) .nil, h1, fun v H' d e rv rd => q v H' d (o1.ex e) (l1.trans e.le) rv rd⟩
end
end BV

end

section
set_option maxHeartbeats 4000000
/-! Own exceptions whose __init__ begins with super().__init__(..). -/
namespace BV
open PySem PySem.Spec L2
section
open PySem.W PySem.Calls PyProof.Rows
variable {prog : Program} {w : World} {A : Around} {E : Value → Shared → Prop} {h : Heap} {g : Array GenState} {d : Drawn} {t : Nat} {os : OsState}
  {nm q : Str} {C N : Addr} {bs bm : List Value} {hdct : Bool} {sn : List Str} {sub : List Value} {ab : Bool} {col : Option Bool} {dd : Option Addr} {k0 k1 k2 k3 k5 : Option Value}
theorem call_bwV {u e t0 : Addr} {rest : List Value} {Q : Value → Shared → Prop} (hC : h.get? C = some (excClassObj nm q C N bs bm hdct sn sub ab col dd k0 k1 k2 k3 k5 "ValueError.__new__"))
    (he : h.get? e = some (HandSPX.excO C t0)) (hu : h.get? u = some (kxs_mw "ValueError.__init__" e)) (hrest : rest.length ≤ sizeLine)
    (hq : ∀ h' t1, (∀ b o, b ≠ e → h.get? b = some o → h'.get? b = some o) → h'.get? e = some (HandSPX.excO C t1) → Q .none ⟨h', g, d, t, os⟩) :
    wpAny (model prog w) A (call (.ref u) rest) Q E ⟨h, g, d, t, os⟩ := by
  refine wpAny_call (codeAny_of_tree ?_)
  show wpAny _ A.in1 (callAny (.ref u) ⟨rest, []⟩) _ _ _
  simp only [callAny]
  refine wpAny_bind (wpAny_load hu ?_)
  simp only [kxs_mw, show (Value.type "method-wrapper" == Value.type "method" || Value.type "method-wrapper" == Value.type "builtin_function_or_method" || Value.type "method-wrapper" == Value.type "method-wrapper") = true by decide, if_true]
  refine KFB.if_so (by decide) ?_
  refine wpAny_bind (check_bound_init PySem.F.excBase_ValueError.toExcCallFacts hC he rfl ?_)
  refine wpAny_bind (wpAny_pure (wpAny_pure ?_))
  refine ⟨plainId_quiet PySem.F.excBase_ValueError.init.plain _, codeAny_builtin PySem.F.excBase_ValueError.initEntry ?_⟩
  exact exc_init_tree (cls := .ref C) (t0 := t0) (dv := none) (c2 := .none) (c3 := .none) (b4 := .bool false) he hrest fun h' k e' t' => hq h' _ k e'
end
/-- what the written part says of a class D's def with super() in it -/
structure SupC (P : Program) (K : PySem.W.Frag) (mg : Str → Option Value) (D cc cda : Addr) : Prop where
  code : ∃ ccl cdd vs ccs file tf, K.lookup cda = some ⟨ccl, cdd, .fields vs, ccs⟩ ∧ vs[2]? = some (.str file tf) ∧ ((P.main.file : Str) == file) = true
  top : (P.main.scope.names.lookup ("super" : Str)).isSome = false
  cell : ∃ cl cld csl, K.lookup cc = some ⟨cl, cld, .cell (some (.ref D)), csl⟩
  cls : ∃ ccl cdd cd sl, K.lookup D = some ⟨ccl, cdd, .cls cd, sl⟩
  sup : mg "super" = none
  any : PySem.W.nsIn K cStatics "thirdparty.any" = some none
/-- a class C from which D's __init__ goes on to ValueError's -/
structure SupX (K : PySem.W.Frag) (C D : Addr) : Prop where
  sub : PySem.W.mroIn K C (.ref D) = some true
  ini : PySem.W.ks_superIn K C D "__init__" = some (some (.builtin "ValueError.__init__"))
  val : PySem.W.subIn K (.ref C) (.type "ValueError") = some true
/-- a def whose first statement is super().__init__(..) -/
structure FunS (K : PySem.W.Frag) (x qual : Str) (st : Stmt) (f cc cda : Addr) (fd : FuncData) : Prop where
  ex : ∃ (oc : Value) (od : Option Addr) (kV doc pm : Value) (an : Option Addr) (ct : Value) (osl : Array (Option Value)),
    fd = PySem.W.fnX x qual (defArgs st) (defBody st) (defScope st) [("__class__", cc)] .none kV doc pm an (.ref cda) ct ∧ K.lookup f = some ⟨oc, od, .func fd, osl⟩ ∧ PySem.W.codeIn K (.ref cda) qual = true
@[reducible] def nfOf (x qual : Str) (st : Stmt) (cc cda : Addr) : NdefX.NF := ⟨x, qual, defArgs st, defBody st, defScope st, [("__class__", cc)], cda⟩
/-- THE RULE for such a def -/
theorem fnS {P : Program} {w : World} {K : PySem.W.Frag} {mg : Str → Option Value} {base : Heap} {CX : CXT} {k : Nat} {x qual : Str} {st : Stmt} {f cc cda D : Addr} {fd : FuncData} {N ps : List Str} {p0 p1 p2 p3 p4 : Pos} {e : Expr} {es : List Expr} {rest : List Stmt} {ar : Arg} {sp : Sp} {pl : Env → Sem Bool}
    (F : FunS K x qual st f cc cda fd) (S : NdefX.NScope N ps ["__class__"] (defScope st)) (U : SupC P K mg D cc cda)
    (hbd : defBody st = .Expr (.Call (.Attribute (.Call (.Name "super" p0) [] [] p1) "__init__" p2) (e :: es) [] p3) p4 :: rest)
    (hp : ((defArgs st).posonlyargs ++ (defArgs st).args).head? = some ar) (har : ps[0]? = some ar.arg) (hks : (defScope st).names.lookup ("super" : Str) = some .globalImplicit) (hnd : ps.Nodup)
    (hc : ∀ env : Env, eval (.Call (.Attribute (.Call (.Name "super" p0) [] [] p1) "__init__" p2) (e :: es) [] p3) env = (do
      let ov ← attributeBase (.Call (.Name "super" p0) [] [] p1) "__init__" env (eval (.Call (.Name "super" p0) [] [] p1) env)
      standAt p2.atName
      let (f, first) ← holding [ov] (getMethod ov "__init__" (pl env))
      callWith p3 f first (backTo p3 (starEach (e :: es) env)) []))
    (hse : ∀ env : Env, starEach (e :: es) env = (false, eval e env) :: starEach es env) (hpl : ∀ env : Env, (backTo p3 (starEach es env)).any (·.1) = false) (hsw : ∀ env : Env, swapsWith (.Call (.Attribute (.Call (.Name "super" p0) [] [] p1) "__init__" p2) (e :: es) [] p3) none p4.line env = pure false)
    (len : ∀ vs H Q E, sp vs H Q E → vs.length = ps.length)
    (hbody : ∀ (A : Around) (outer : List Env) (s : Shared) (H : Hp) (vs : List V) (Q : VK) (E : XK), Room k (A.deeper (NdefX.envF (nfOf x qual st cc cda) f s.heap.objs.size)) → sp vs H Q E →
      ∃ t tr, PA (NdefX.ncx CX P w K mg base N (nfOf x qual st cc cda) f A outer s H E) (e :: es) t ∧ PSs (NdefX.ncx CX P w K mg base N (nfOf x qual st cc cda) f A outer s H E) rest tr ∧
        ∃ a C, vs[0]? = some (.ref a) ∧ OexC K C ∧ SupX K C D ∧ H a = some (exo a C none) ∧ t (NdefX.startF N vs [none]) H fun ws H1 => ws.length ≤ 1000 ∧ H1 a = some (exo a C none) ∧ tr { nx := fun _ H' => Q .non H', rt := Q } (NdefX.startF N vs [none]) H1) :
    FnOk P w K mg base CX (k + 1) f fd ps sp := by
  obtain ⟨oc, od, kV, doc, pm, an, ct, osl, rfl, lk, hcd⟩ := F.ex
  refine ⟨len, fun A outer s H args us vs Q E hr e0 hb r hsp => ?_⟩
  have hl := len _ _ _ _ hsp
  have kk : ∀ b o, base.get? b = some o → s.heap.get? b = some o := fun b o e => (e0.bs b o e).1
  have KX : K.In s.heap := e0.mod.kin.keeps kk
  have lim := e0.mod.nolimit.keeps kk
  obtain ⟨cl, cld, csl, hcell⟩ := U.cell
  have hccB := e0.mod.kin _ _ hcell
  have hkc : (defScope st).names.lookup ("__class__" : Str) = some .free := S.frk _ (by simp)
  have lkc : ∀ {y : Str} {c : Addr}, ([(("__class__" : Str), cc)] : List (Str × Addr)).lookup y = some c → y = "__class__" ∧ c = cc := fun {y c} h => by
    rw [List.lookup_cons] at h
    by_cases hy : y = "__class__"
    · subst hy
      simp at h
      exact ⟨rfl, h.symm⟩
    · have : (y == ("__class__" : Str)) = false := by simpa using hy
      rw [this] at h
      simp at h
  have C : NdefX.CellsAt [("__class__", cc)] ["__class__"] [none] s.heap H := by
    refine ⟨rfl, fun y c h => ?_, fun x y c h1 h2 => ?_, fun i y h => ?_⟩
    · obtain ⟨_, rfl⟩ := lkc h
      exact ⟨(e0.bs _ _ hccB).2, _, _, kk _ _ hccB, rfl⟩
    · rw [(lkc h1).1, (lkc h2).1]
    · cases i with
      | zero =>
        simp at h
        subst h
        exact ⟨cc, by simp [List.lookup], fun v hv => by simp at hv⟩
      | succ i => simp at h
  refine PySem.ks_codeAny_call_defAt (body := defBody st) (binds := ps.zip us) hr.depth (KX _ _ lk) rfl lim (PySem.W.codeRec_of KX hcd) rfl hb S.nocell (fun ⟨n, _⟩ hy => S.par n (List.of_mem_zip hy).1) (fun h₁ hns kp => ?_) S.co S.gen S.kind
  have I : Inv (NdefX.ncx CX P w K mg base N (nfOf x qual st cc cda) f A outer s H E) [] (NdefX.startF N vs [none]) H { s with heap := h₁, toks := s.toks + (ps.zip us).length } := NdefX.inv_startN S hr.hd e0 hl r C hns kp
  obtain ⟨t, tr, ht, htr, a, C', ea0, oex, sx, eH, hq⟩ := hbody A outer s H vs Q E (hr.deeper _) hsp
  rw [hbd]
  obtain ⟨ccl, cdd, cvs, ccs, file, tf, hcode, hvs, hfile⟩ := U.code
  obtain ⟨Dc, Dd, Dcd, Dsl, hD⟩ := U.cls
  obtain ⟨mb, hmb, hmb2⟩ := e0.mod.blt
  have fin : ∀ {s' : Shared} {σ' : L2.St} {H' : Hp} {v : V} {u : Value}, Inv (NdefX.ncx CX P w K mg base N (nfOf x qual st cc cda) f A outer s H E) [] σ' H' s' → L2.RelV v u → Q v H' → CE outer P w H s Q u s' :=
    fun {s' σ' H' v u} J rv q => ⟨v, H', J.os, J.bare, J.base, J.hok, rv, q⟩
  -- the first statement
  refine PySem.ks_wpAt_execs_cons (PySem.ks_wpAt_Expr_any (hi := I.quiet) (hs := hsw _) ?_)
  refine PySem.ks_wpAt_MethodCall (he := hc _) ?_
  refine PySem.ks_wpAt_super_base hks hkc (by decide) rfl (I.kIn _ _ lk) rfl hp rfl (I.kIn _ _ hcode) rfl hvs hfile U.top ?_
  refine PySem.W.ks_loadName_global S.kind hks (PySem.Calls.loadGlobal_builtin (mg := mg) (mb := mb) (e0.mod.glob.keeps I.bk) U.sup (hmb.keeps I.bk) ((hmb2 _ (by decide +kernel)).trans (by rw [PyProof.Rows.Boot.«super»])) ⟨rfl, ?_⟩)
  refine wpAny_loadName_free S.kind hkc rfl ⟨_, I.kIn _ _ hcell, rfl⟩ ?_
  have hu0 : us[0]? = some (.ref a) := by
    revert ea0
    cases r with
    | nil => intro z; cases z
    | cons r1 _ =>
      intro z
      simp at z
      subst z
      have r1 : _ = Value.ref a := r1
      simp [r1]
  have hself : (ps.zip us).reverse.lookup ar.arg = some (.ref a) := NdefX.zip_look hnd har hu0
  have hap : ar.arg ∈ ps := List.mem_of_getElem? har
  refine wpAny_loadName_local S.kind (S.par _ hap) hns hself ?_
  refine PySem.ks_wpAny_isType_cls (I.kIn _ _ hD) rfl ⟨rfl, ?_⟩
  obtain ⟨t1, hexo⟩ := exo_at I.hok eH
  refine PySem.ks_wpAny_call_super (I.kIn _ _ hD) rfl hexo rfl (fun c z => ?_) (PySem.W.looks_mroIn I.kIn sx.sub) (fun h2 hso kp2 => ?_)
  · cases z
  have I2 := I.kept (h' := h2) (t' := s.toks + (ps.zip us).length) kp2
  obtain ⟨t2, hexo2⟩ := exo_at I2.hok eH
  have IA : PySem.W.InstAt h2 a _ C' none := ⟨hexo2, rfl, rfl, trivial⟩
  obtain ⟨cd, hcd2⟩ : ∃ cd, PySem.W.clsIn K C' = some cd := by
    cases z : PySem.W.clsIn K C' with
    | none =>
      have q := sx.ini
      unfold PySem.W.ks_superIn at q
      rw [z] at q
      cases q
    | some cd => exact ⟨cd, rfl⟩
  have hm := sx.ini
  unfold PySem.W.ks_superIn at hm
  rw [hcd2] at hm
  refine PySem.W.kxs_getMethod (K := K) PySem.W.kxs_ValueError hso (PySem.W.looks_opaque I2.kIn U.any) (l₀ := cd.mro) (fun A Q E s k q => wpAny_bind ((PySem.W.looks_clsIn I2.kIn hcd2) A _ E s k (wpAny_pure q))) rfl I2.kIn hm (IA.type.andThen (PySem.W.looks_subIn I2.kIn sx.val)) (PySem.W.ks_ne I2.kIn IA hcd2) (by decide) ?_
  have hu : (h2.push (PySem.W.kxs_mw "ValueError.__init__" a)).get? h2.objs.size = some (PySem.W.kxs_mw "ValueError.__init__" a) := Heap.get?_push_at rfl rfl
  have I3 := I2.kept (h' := h2.push (PySem.W.kxs_mw "ValueError.__init__" a)) (t' := s.toks + (ps.zip us).length + 1) (fun b o q => Heap.get?_push_of_some _ q)
  have I4 := I3.pins_of (pins' := [(h2.objs.size, PySem.W.kxs_mw "ValueError.__init__" a)]) (fun p hp => by
    have e1 : p = (h2.objs.size, PySem.W.kxs_mw "ValueError.__init__" a) := by
      have hp : p ∈ [(h2.objs.size, PySem.W.kxs_mw "ValueError.__init__" a)] := hp
      simpa using hp
    subst e1
    refine ⟨hu, I2.hok.gone (Heap.get?_none_of_le (Nat.le_refl _)), ?_, I2.nofs (Nat.le_refl _), fun v z => by cases z⟩
    exact Nat.ne_of_gt I2.lt)
  refine PySem.W.kxs_callWith (i := "ValueError.__init__") (x := a) (by rw [hse]; show (false || (backTo p3 (starEach es _)).any (·.1)) = false; rw [hpl]; rfl) ?_
  have hcall := ht.run p3 _ _ _ _ _ I4 hq
  rw [hse] at hcall ⊢
  refine PySem.Calls.evalArgs_plain (thn hcall fun ws s5 ⟨xs, H5, I5, r5, hl5, e5, q5⟩ => ?_)
  have hu5 := (I5.pin (h2.objs.size, PySem.W.kxs_mw "ValueError.__init__" a) (List.mem_append_right _ (List.mem_singleton.mpr rfl))).1
  refine ⟨hu5, ?_⟩
  obtain ⟨nm, q, N', bs, bm, sn, sub, ab, col, dd, k0, k1, k2, k3, k5, hC, hbm⟩ := oex.cls
  obtain ⟨t5, ho5⟩ := exo_at I5.hok e5
  have I6 : Inv (NdefX.ncx CX P w K mg base N (nfOf x qual st cc cda) f A outer s H E) [] (NdefX.startF N vs [none]) H5 s5 := I5.pins_of fun p hp => by cases hp
  have hC5 := I6.kIn _ _ hC
  obtain ⟨hh, g5, d5, tk5, os5⟩ := s5
  have hlen : ws.length ≤ sizeLine := by
    rw [← Paired.length r5, sizeLine_eq]
    omega
  refine call_bwV hC5 ho5 hu5 hlen (fun h' t6 k hx => ?_)
  have J := I6.write (h' := h') (t' := tk5) (x := a) (e := a) (o := exo a C' none) (by rw [e5]; exact True.intro) (.inl rfl) k ⟨_, hx⟩ (exo_ok hx)
  have eu : upd H5 a (exo a C' none) = H5 := by
    funext b
    by_cases hb : b = a
    · rw [hb, upd_same, e5]
    · rw [upd_ne hb]
  rw [eu] at J
  refine PySem.wpAt_of_wpAny (wpAny_mono (htr.run [] _ _ _ _ J q5) (fun fl s' hs => ?_) fun e s' hs => hs)
  cases fl with
  | ret u =>
    obtain ⟨v, σ', H', J, rv, q⟩ := hs
    exact fin J rv q
  | next =>
    obtain ⟨σ', H', J, q⟩ := hs
    exact fin (v := V.non) (u := Value.none) J rfl q
  | brk =>
    obtain ⟨_, _, _, q⟩ := hs
    exact False.elim q
  | cont =>
    obtain ⟨_, _, _, q⟩ := hs
    exact False.elim q
end BV

end

section
set_option maxHeartbeats 4000000
/-! try with several clauses, each with or without a name -/
namespace BV
open PySem PySem.Spec L2
abbrev TSx := Addr → Value → Option Addr → TS
/-- a clause: its class, the slot of its name, its suite -/
abbrev Clause := Value × Option Nat × TSx
def offI : Option Nat → St → St
  | none, σ => σ
  | some i, σ => σ.set i none
def onI : Option Nat → Addr → L2.St → L2.St
  | none, _, σ => σ
  | some i, a, σ => σ.set i (some (.ref a))
def endI (o : Option Nat) (D : Ends) : Ends := { nx := fun σ H => D.nx (offI o σ) H, rt := D.rt, bk := fun σ H => D.bk (offI o σ) H, ct := fun σ H => D.ct (offI o σ) H }
def wCl (K : PySem.W.Frag) (Wout : WX) (D : Ends) : List Clause → WX
  | [] => Wout
  | (c, o, ts) :: r => fun cls d σ H => ∃ b, PySem.W.exmOne K cls c = some b ∧ (b = true → ∀ a, H a = none → ts a cls d (endI o D) (onI o a σ) H) ∧ (b = false → wCl K Wout D r cls d σ H)
/-- the reading of a try; kept whole, so that its body's reading can be found again -/
def tTry (K : PySem.W.Frag) (Wout : WX) (l : List Clause) (tb : WX → TS) : TS := fun D σ H => tb (wCl K Wout D l) D σ H
inductive ClOk (X : Cx) : List ExceptHandler → List Clause → Prop
  | nil : ClOk X [] []
  | cons {x : Str} {c : Value} {ts : TSx} {b₀ : Stmt} {suite : List Stmt} {np pos' : Pos} {hds : List ExceptHandler} {l : List Clause} (hc : Names X x c)
      (hsu : ∀ (a : Addr) (oe : Obj) (cls : Value) (d : Option Addr) (pn : List (Addr × Obj)), Zc cls d oe → (∃ vs, oe.data = .fields vs) → PSs (X.suite a ((a, oe) :: pn)) (b₀ :: suite) (ts a cls d)) (r : ClOk X hds l) :
      ClOk X (.ExceptHandler (some (.Name x np)) none (b₀ :: suite) pos' :: hds) ((c, none, ts) :: l)
  | named {x n : Str} {c : Value} {i : Nat} {ts : TSx} {b₀ : Stmt} {suite : List Stmt} {np pos' : Pos} {hds : List ExceptHandler} {l : List Clause} (hc : Names X x c) (hi : X.N[i]? = some n) (hln : X.env.kindOf n = some .local)
      (hsu : ∀ (a : Addr) (oe : Obj) (cls : Value) (d : Option Addr) (pn : List (Addr × Obj)), Zc cls d oe → (∃ vs, oe.data = .fields vs) → PSs (X.suite a ((a, oe) :: pn)) (b₀ :: suite) (ts a cls d)) (r : ClOk X hds l) :
      ClOk X (.ExceptHandler (some (.Name x np)) (some n) (b₀ :: suite) pos' :: hds) ((c, some i, ts) :: l)
section
variable {X : Cx} {body : List Stmt} {h₀ : ExceptHandler} {hds : List ExceptHandler} {l : List Clause} {pos : Pos} {tb : WX → TS} {Wout : WX}
open PyProof.Rows in
theorem ps_tryC (hs : X.stack = X.env :: X.outer) (hf : X.env.frame = some X.env.locals) (hN : X.N.Nodup) (tk : Takes X Wout)
    (hb : ∀ (W : WX) (pn : List (Addr × Obj)) (xe : Value → Shared → Prop), Takes (X.tr pn xe) W → PassesOwn (model X.prog X.w) X.A X.env xe → PSs (X.tr pn xe) body (tb W))
    (hh : ClOk X (h₀ :: hds) l) : PS X (.Try body (h₀ :: hds) [] [] pos) (tTry X.K Wout l tb) := by
  refine ⟨fun pins s σ H D I h => ?_⟩
  have h : tb (wCl X.K Wout D l) D σ H := h
  have ok := I.ok
  have hfr : X.A.frames = some (X.env :: X.outer) := by rw [ok.frames, hs]
  refine wpAny_Try_except ?_
  refine wpAny_mono ((hb (wCl X.K Wout D l) (X.pn ++ pins) (fun e s₁ => wpAny (model X.prog X.w) X.A (noteFrame e X.env) (fun _ s₂ => wpAny (model X.prog X.w) X.A (setFlight e none) (fun _ s₃ =>
    wpAny (model X.prog X.w) X.A (handleBy e X.env (h₀ :: hds)) (SP X pins D) X.xe s₃) X.xe s₂) X.xe s₁) (fun u s' xx => ?_) PassesOwn.looking).run [] s σ H D (I.toTry _) h) (fun f s1 hsp => ?_) (fun e s1 he => he)
  · obtain ⟨a, B, sI, pins', σ', H', cls, d, rfl, J', nb, up, sky, na, os, ag, w⟩ := xx
    have J : Inv X pins σ' H' sI := J'.ofTry ok
    have sky' : Sky B (X.env :: X.outer) a (Zc cls d) X.env.locals s'.heap := by rw [← hs]; exact sky
    show wpAny (model X.prog X.w) X.A (noteFrame (.ref a) X.env) _ _ _
    refine Sky.land Zc.steady hfr hf sky' fun h3 fl3 up3 => ?_
    have J3 : Inv X pins σ' H' { s' with heap := h3 } := J.landed nb fl3.1 (up.trans up3) os ag
    obtain ⟨oe3, vs3, he3, hz3, hd3⟩ := fl3.there
    have nfr : a ∉ frs (X.env :: X.outer) := fun hm => by
      obtain ⟨_, o', e', hnf⟩ := fl3.2.2.1.mem hm
      rw [he3] at e'; cases e'
      exact hnf _ hd3
    have nL : a ≠ X.env.locals := fun z => nfr (List.mem_filterMap.mpr ⟨X.env, List.mem_cons_self, by rw [hf, z]⟩)
    have nF : a ∉ X.fs := fun hm => by
      obtain ⟨e, he, q⟩ := List.mem_filterMap.mp hm
      exact nfr (List.mem_filterMap.mpr ⟨e, List.mem_cons_of_mem _ he, q⟩)
    have S3 := J3.suite he3 hd3 na nL nF
    have LT : PySem.W.Looks (model X.prog X.w) h3 (typeOf (.ref a)) cls := fun A Q E s k q => wpAny_typeOf_ref (k _ _ he3) (by rw [hz3.1]; exact q)
    have test : ∀ {x : Str} {c : Value} {np : Pos}, Names X x c → ∀ {Q : Value → Shared → Prop} {E : Value → Shared → Prop}, Q c { s' with heap := h3 } → wpAny (model X.prog X.w) (X.A.mark (some (.ref a))) (eval (.Name x np) X.env) Q E { s' with heap := h3 } := fun {x c np} hc {Q E} q => by
      obtain ⟨hg, hdbg, hm | ⟨hm, hv, hnn⟩⟩ := hc
      · exact ld_glob (X := X.suite a ((a, oe3) :: (X.pn ++ pins))) S3 hg hm q hdbg
      · exact ld_blt (X := X.suite a ((a, oe3) :: (X.pn ++ pins))) S3 hg hm hv q hnn hdbg
    have go : ∀ {hds' : List ExceptHandler} {l' : List Clause}, ClOk X hds' l' → wCl X.K Wout D l' cls d σ' H' → wpAny (model X.prog X.w) X.A (handleBy (.ref a) X.env hds') (SP X pins D) X.xe { s' with heap := h3 } := by
      intro hds' l' hk
      induction hk with
      | nil =>
        intro w
        refine wpAny_handleBy_nil ?_
        obtain ⟨k1, k2, k3, oe, vs, T, oT, ts', he, hz, hd, h1, hr⟩ := id fl3
        unfold PySem.passOn
        refine wpAny_bind (wpAny_field he hd h1 ?_)
        rw [if_neg (show ¬ ((Value.ref T == Value.none) = true) from by simp)]
        have fin : wpAny (model X.prog X.w) X.A (setFlight (.ref a) X.env.frame) (fun _ s4 => wpAny (model X.prog X.w) X.A (throw (.ref a) : Sem Flow) (SP X pins D) X.xe s4) X.xe { s' with heap := h3 } := by
          rw [hf]
          refine HandSPX.setFlight_upZ fl3 fun h4 hh4 up4 => wpAny_throw (tk _ _ ?_)
          exact ⟨a, B, sI, pins, σ', H', cls, d, rfl, J, nb, (up.trans up3).trans up4, .inr (.inr (by rw [hs]; exact hh4)), na, os, ag, w⟩
        first
          | exact wpAny_bind (wpAny_pure (wpAny_bind fin))
          | exact wpAny_bind fin
      | @cons x c ts b₀ suite np pos' hds2 l2 hc hsu r ih =>
        intro w
        obtain ⟨b, hb1, hyes, hno⟩ := w
        have LM := PySem.W.exm_one (M := model X.prog X.w) (J3.kIn) LT hb1
        refine wpAny_handleBy_cons (codeAny_handlers_test (test hc (LM.here ?_))) (by intro q; cases q)
        cases b with
        | true =>
          refine codeAny_handlers_suite ?_
          refine HandSPX.lands_againZ fl3 fun h4 fl4 up4 => ?_
          have J4 : Inv X pins σ' H' { s' with heap := h4 } := J.landed nb fl4.1 ((up.trans up3).trans up4) os ag
          obtain ⟨oe4, vs4, he4, hz4, hd4⟩ := fl4.there
          have S4 := J4.suite he4 hd4 na nL nF
          refine wpAny_mono ((hsu a oe4 cls d (X.pn ++ pins) hz4 ⟨_, hd4⟩).run [] _ _ H' _ S4 (hyes rfl a na)) (fun f s6 hsp => ?_) (fun _ _ z => False.elim z)
          cases f with
          | ret u =>
            obtain ⟨v6, σ6, H6, S6, r6, q6⟩ := hsp
            exact ⟨_, _, _, S6.unsuite ok, r6, q6⟩
          | _ =>
            obtain ⟨σ6, H6, S6, q6⟩ := hsp
            exact ⟨_, _, S6.unsuite ok, q6⟩
        | false => exact ih (hno rfl)
      | @named x n c i ts b₀ suite np pos' hds2 l2 hc hi hln hsu r ih =>
        intro w
        obtain ⟨b, hb1, hyes, hno⟩ := w
        have LM := PySem.W.exm_one (M := model X.prog X.w) (J3.kIn) LT hb1
        refine wpAny_handleBy_cons (codeAny_handlers_test (test hc (LM.here ?_))) (by intro q; cases q)
        cases b with
        | true =>
          refine codeAny_handlers_suite_as ?_
          refine HandSPX.lands_againZ fl3 fun h4 fl4 up4 => ?_
          have J4 : Inv X pins σ' H' { s' with heap := h4 } := J.landed nb fl4.1 ((up.trans up3).trans up4) os ag
          obtain ⟨oe4, vs4, he4, hz4, hd4⟩ := fl4.there
          have S4 := J4.suite he4 hd4 na nL nF
          refine store_ok (X := X.suite a ((a, oe4) :: (X.pn ++ pins))) (v := .ref a) S4 hN hi (.inl hln) rfl (fun s5 S5 => ?_) (.inr hln)
          refine wpAny_mono ((hsu a oe4 cls d (X.pn ++ pins) hz4 ⟨_, hd4⟩).run [] s5 _ H' _ S5 (hyes rfl a na)) (fun f s6 hsp => ?_) (fun _ _ z => False.elim z)
          have end_ : ∀ {σ6 : L2.St} {H6 : Hp} {Q : Shared → Prop}, Inv (X.suite a ((a, oe4) :: (X.pn ++ pins))) [] σ6 H6 s6 → (∀ s7, Inv X pins (σ6.set i none) H6 s7 → Q s7) →
              wpAny (model X.prog X.w) X.A (do bindName X.env n .none; unbindBehindTheSuite X.env n pos') (fun _ s7 => Q s7) X.xe s6 := fun {σ6 H6 Q} S6 hq => gone_ok (S6.unsuite ok) hN hi hln hq
          cases f with
          | ret u =>
            obtain ⟨v6, σ6, H6, S6, r6, q6⟩ := hsp
            exact end_ S6 fun s7 J7 => ⟨_, _, _, J7, r6, q6⟩
          | _ =>
            obtain ⟨σ6, H6, S6, q6⟩ := hsp
            exact end_ S6 fun s7 J7 => ⟨_, _, J7, q6⟩
        | false => exact ih (hno rfl)
    exact go hh w
  · cases f with
    | next =>
      obtain ⟨σ', H', J', q⟩ := hsp
      exact wpAny_execs_nil ⟨σ', H', J'.ofTry ok, q⟩
    | ret u =>
      obtain ⟨v, σ', H', J', r, q⟩ := hsp
      exact ⟨v, σ', H', J'.ofTry ok, r, q⟩
    | _ =>
      obtain ⟨σ', H', J', q⟩ := hsp
      exact ⟨σ', H', J'.ofTry ok, q⟩
end
end BV

end

section
set_option maxHeartbeats 4000000
/-! promises of defs that may let an exception out -/
namespace BV
open PySem PySem.Spec L2
open PyProof.Rows (envOfC)
abbrev RX := Addr → List (Str × Dat) → Prop
def spX (K : PySem.W.Frag) (S : List Dat → (Dat → Prop) → RX → Prop) : Sp := fun vs H Q E => ∃ (P : Addr → Prop) (ds : List Dat) (R : Dat → Prop) (RE : RX), (∀ a, P a → ∃ o, H a = some o) ∧ RepL K (hid P H) vs ds ∧ S ds R RE ∧
  (∀ v H' d, Ex H H' → Rep K (hid P H') v d → R d → Q v H') ∧ ∀ C dx H' xs fs, Ex H H' → hid P H' dx = some (.xd xs) → RepF K (hid P H') xs fs → RE C fs → E (.ref C) (some dx) H'
/-- an __init__ that may let an exception out -/
def spIX (K : PySem.W.Frag) (C0 : Addr) (S : List Dat → (List (Str × Dat) → Prop) → RX → Prop) : Sp := fun vs H Q E => ∃ (P : Addr → Prop) (x dx : Addr) (us : List V) (ds : List Dat) (R : List (Str × Dat) → Prop) (RE : RX), vs = .ref x :: us ∧ H x = some (.ins C0 dx []) ∧ ¬ P x ∧ (∀ a, P a → ∃ o, H a = some o) ∧
  RepL K (hid (fun b => P b ∨ b = x) H) us ds ∧ S ds R RE ∧ (∀ H' dx' xs fs, (∀ b o, b ≠ x → H b = some o → H' b = some o) → H' x = some (.ins C0 dx' xs) → RepF K (hid (fun b => P b ∨ b = x) H') xs fs → R fs → Q .non H') ∧
  ∀ C dx H' xs fs, (∀ b o, b ≠ x → H b = some o → H' b = some o) → hid (fun b => P b ∨ b = x) H' dx = some (.xd xs) → RepF K (hid (fun b => P b ∨ b = x) H') xs fs → RE C fs → E (.ref C) (some dx) H'
section
variable {K : KB} {w : Bool} {ρ : LS} {t : TA} {R : Dat → Prop}
theorem XOk.call {c : Bc} {σ : L2.St} {H1 H' : Hp} {C dx : Addr} {xs : List (Str × V)} {fs : List (Str × Dat)} (o1 : Ok K c ρ σ H1) (e : Ex H1 H') (hx : sv c ρ σ H' dx = some (.xd xs)) (rf : RepF K (sv c ρ σ H') xs fs) (re : K.RE C fs ρ) : K.E (.ref C) (some dx) σ H' :=
  o1.xo C dx ρ σ H' xs fs (o1.ex e).toOk0 hx rf re
theorem g_callX {S : List Dat → (Dat → Prop) → RX → Prop} (h : GA K false ρ t fun ds => ∃ RE, S ds R RE ∧ ∀ C fs, RE C fs → K.RE C fs ρ) : G K false ρ (tCallS (spX K.F S) (WE K.E) t) R := fun c σ H o Q q =>
  h c σ H o _ fun vs H1 ds o1 l1 r1 ⟨RE, k, kx⟩ => ⟨_, ds, R, RE, o1.trk (w := false), r1, k, fun v H' d e rv rd => q v H' d (o1.ex e) (l1.trans e.le) rv rd, fun C dx H' xs fs e hx rf re => XOk.call o1 e hx rf (kx C fs re)⟩
/-- C(..), whose __init__ may let an exception out -/
def tMakeS (C : Addr) (sp : Sp) (E : L2.St → XK) (t : TA) : TE := fun σ H Q => t σ H fun vs H1 => ∀ x dx, H1 x = none → H1 dx = none → dx ≠ x → sp (.ref x :: vs) (upd (upd H1 dx (.own x)) x (.ins C dx [])) (fun v H' => v = .non ∧ Q (.ref x) H') (E σ)
end
section
variable {K : PySem.W.Frag} {P : Program} {wd : World} {mg : Str → Option Value} {base : Heap} {x qual : Str} {st : Stmt} {f : Addr} {fd : FuncData} {N ps : List Str} {k : Nat}
theorem okX {S : List Dat → (Dat → Prop) → RX → Prop} (F : Fun K x qual st f fd) (sc : FnScope N ps (defScope st)) (len : ∀ ds R RE, S ds R RE → ds.length = ps.length)
    (hb : ∀ (cdv : Value) (A : Around) (outer : List Env) (s : Shared) (H : Hp) (E : XK), Room k (A.deeper (envOfC qual (defScope st) s.heap.objs.size f cdv)) →
      ∃ t, PSs (cxOf (L2.CX P wd) P wd K mg base N qual (defScope st) f cdv A outer s H E) (defBody st) t ∧ ∀ ds R RE, S ds R RE → Run ⟨K, fun cls d _ H => E cls d H, fun C fs _ => RE C fs⟩ (startS N ds) t (fun _ => R .non) (fun r _ => ∃ d, r = .d d ∧ R d) (fun _ => False) fun _ => False) :
    FnOk P wd K mg base (L2.CX P wd) (k + 1) f fd ps (spX K S) := by
  refine F.okX sc (fun vs H Q E h => ?_) fun cdv A outer s H vs Q E hr h => ?_
  · obtain ⟨P, ds, R, RE, _, r, hS, _⟩ := h
    rw [r.length]
    exact len ds R RE hS
  · obtain ⟨Pp, ds, R, RE, hp, r, hS, kq, kx⟩ := h
    obtain ⟨t, ht, run⟩ := hb cdv A outer s H E hr
    refine ⟨t, ht, ?_⟩
    have nop : ∀ a, ¬ Pr (startS N ds) (L2.start N vs) a := fun a ⟨i, s', v', h1, h2, h3⟩ => by
      rcases start_get r h1 h2 with e | ⟨y, u, e, _⟩
      · rw [e] at h3; cases h3
      · rw [e] at h3; cases h3
    have o : Ok ⟨K, fun cls d _ H => E cls d H, fun C fs _ => RE C fs⟩ ⟨Pp, fun _ => False, H⟩ (startS N ds) (L2.start N vs) H := by
      refine ⟨⟨start_len r.length, fun i s' v' h1 h2 => ?_, fun i j s1 v1 s2 v2 a g1 g2 g3 => absurd ⟨i, s1, v1, g1, g2, g3⟩ (nop a), fun a h => absurd h (nop a), fun _ _ _ h => h, fun a h => absurd h (nop a), hp⟩, fun C dx ρ' σ' H' xs fs o' hx rf re => ?_⟩
      · rcases start_get r h1 h2 with e | ⟨y, u, e, e2, ru⟩
        · rw [e]; trivial
        · rw [e, e2]
          refine ⟨u, rfl, ru.mono (hid_ex fun b ob hb e => ⟨fun z => ?_, e⟩)⟩
          rcases z with z | z
          · exact hb z
          · rw [if_neg Bool.false_ne_true] at z; exact nop b z
      · have le : Ex (sv ⟨Pp, fun _ => False, H⟩ ρ' σ' H') (hid Pp H') := hid_ex fun b ob hb e => ⟨fun z => hb (.inl z), e⟩
        exact kx C dx H' xs fs (fun b ob e => o'.fr b ob (fun z => z) e) (le dx _ hx) (rf.mono le) re
    refine run ds R RE hS _ _ ⟨fun ρ' σ' H' o' n => ?_, fun ρ' σ' H' v d o' rv rd => ?_, fun ρ' σ' H' a s' o' hx rs hpa rd => ?_, fun _ _ _ _ z => z.elim, fun _ _ _ _ z => z.elim⟩ _ _ o
    · exact kq .non H' .non (fun b ob e => o'.fr b ob (fun z => z) e) .non n
    · obtain ⟨d', e, rd⟩ := rd
      cases e
      exact kq v H' d (fun b ob e => o'.fr b ob (fun z => z) e) (rv.mono (hid_ex fun b ob hb e => ⟨fun z => hb (.inl z), e⟩)) rd
    · obtain ⟨d', e, rd⟩ := rd
      cases e
end
/-! ### raising -/
/-- the __init__ of an exception: the fields it leaves -/
def spE (K : PySem.W.Frag) (D : Addr) (S : List Dat → List (Str × Dat) → Prop) : Sp := fun vs H Q _ => ∃ (P : Addr → Prop) (a C : Addr) (us : List V) (ds : List Dat) (fs : List (Str × Dat)), vs = .ref a :: us ∧ OexC K C ∧ SupX K C D ∧ (∀ f ∈ fs, PySem.W.findIn K (.ref C) f.1 = some none) ∧ H a = some (exo a C none) ∧ P a ∧ (∀ b, P b → ∃ o, H b = some o) ∧
  RepL K (hid P H) us ds ∧ S ds fs ∧ ∀ H' d xs, (∀ b o, b ≠ a → H b = some o → H' b = some o) → H' a = some (exo a C (some d)) → H' d = some (exd d xs) → H d = none → RepF K (hid P H) xs fs → Q .non H'
section
variable {K : KB} {w : Bool} {ρ : LS} {t : TA} {N : LS → Prop} {R : Ret → LS → Prop} {B C' : LS → Prop}
theorem run_raise {S : List Dat → List (Str × Dat) → Prop} {C D : Addr} (T : OexC K.F C) (X : SupX K.F C D) (hf : ∀ ds fs, S ds fs → ∀ f ∈ fs, PySem.W.findIn K.F (.ref C) f.1 = some none) (h : GA K false ρ t fun ds => ds.length ≤ 1000 ∧ ∃ fs, S ds fs ∧ K.RE C fs ρ) :
    Run K ρ (fun _ σ H => tMkO C (spE K.F D S) [] t σ H fun cls d H' => K.E cls d σ H') N R B C' := fun c Dd is σ H o =>
  h c σ H o _ fun vs H1 ds o1 l1 r1 ⟨hl, fs, k, re⟩ => ⟨by rw [r1.length]; exact hl, fun a ha => by
    rw [List.append_nil]
    have e1 : Ex H1 (upd H1 a (exo a C none)) := Ex.new ha
    have nva := o1.vis (w := false) ha
    refine ⟨fun b => (c.P b ∨ (if (false : Bool) = true then Fr ρ σ b else Pr ρ σ b)) ∨ b = a, a, C, vs, ds, fs, rfl, T, X, hf ds fs k, upd_same, .inr rfl, fun b hb => ?_, r1.mono (hid_ex fun b ob hb e => ⟨fun z => ?_, e1 b ob e⟩), k, fun H' d xs hk hxa hxd hd rf => ⟨rfl, d, xs, hxa, hxd, ?_, ?_⟩⟩
    · rcases hb with hb | hb
      · obtain ⟨ob, e⟩ := o1.trk (w := false) b hb
        exact ⟨ob, e1 b ob e⟩
      · rw [hb]; exact ⟨_, upd_same⟩
    · rcases z with z | z
      · exact hb z
      · rw [z, ha] at e; cases e
    · have da : d ≠ a := fun z => by rw [z, upd_same] at hd; cases hd
      rw [upd_ne da] at hd
      exact hd
    · have da : d ≠ a := fun z => by rw [z, upd_same] at hd; cases hd
      have hd1 : H1 d = none := by rw [upd_ne da] at hd; exact hd
      have e3 : Ex H1 (upd (del H' a) d (.xd xs)) := fun b ob e => by
        have ba : b ≠ a := fun z => by rw [z, ha] at e; cases e
        have bd : b ≠ d := fun z => by rw [z, hd1] at e; cases e
        rw [upd_ne bd, del_ne ba]
        exact hk b ob ba (by rw [upd_ne ba]; exact e)
      refine XOk.call o1 e3 (hid_some.mpr ⟨o1.vis (w := false) hd1, upd_same⟩) (rf.mono (hid_ex fun b ob hb e => ⟨fun z => hb (.inl z), ?_⟩)) re
      have ba : b ≠ a := fun z => hb (.inr z)
      rw [upd_ne ba] at e
      exact e3 b ob e⟩
end
/-! ### try -/
section
variable {K : KB} {ρ : LS} {N : LS → Prop} {R : Ret → LS → Prop} {B C' : LS → Prop}
def offS : Option Nat → LS → LS
  | none, ρ => ρ
  | some i, ρ => ρ.set i .no
def onS : Option Nat → Slot → LS → LS
  | none, _, ρ => ρ
  | some i, s, ρ => ρ.set i s
/-- the clauses take an exception of the class C with the fields fs, left at the slots ρ -/
def Hdl (K : KB) (N : LS → Prop) (R : Ret → LS → Prop) (B C' : LS → Prop) (C : Addr) (fs : List (Str × Dat)) (ρ : LS) : List Clause → Prop
  | [] => K.RE C fs ρ
  | (c, o, ts) :: r => ∃ b, PySem.W.exmOne K.F (.ref C) c = some b ∧ (b = true → ∀ a d, Run K (onS o (.exc a d C fs) ρ) (ts a (.ref C) (some d)) (fun ρ => N (offS o ρ)) R (fun ρ => B (offS o ρ)) fun ρ => C' (offS o ρ)) ∧ (b = false → Hdl K N R B C' C fs ρ r)
theorem Ok.off {c : Bc} {σ : L2.St} {H : Hp} (k : Ok K c ρ σ H) (o : Option Nat) : Ok K c (offS o ρ) (offI o σ) H := by
  cases o with
  | none => exact k
  | some i => exact k.setD rfl trivial
theorem run_try {tb : WX → TS} {l : List Clause} {RE : Addr → List (Str × Dat) → List Slot → Prop} (hb : ∀ W, Run ⟨K.F, W, RE⟩ ρ (tb W) N R B C') (hh : ∀ C fs ρ', RE C fs ρ' → Hdl K N R B C' C fs ρ' l) :
    Run K ρ (tTry K.F K.E l tb) N R B C' := fun c D is σ H o => by
  show tb (wCl K.F K.E D l) D σ H
  have up : ∀ ρ σ H, Ok0 K.F c ρ σ H → Ok K c ρ σ H := fun ρ σ H k => ⟨k, o.xo⟩
  refine hb _ c D ⟨fun ρ σ H k => is.nx ρ σ H (up _ _ _ k.toOk0), fun ρ σ H v d k => is.rt ρ σ H v d (up _ _ _ k.toOk0), fun ρ σ H a s k => is.rn ρ σ H a s (up _ _ _ k.toOk0), fun ρ σ H k => is.bk ρ σ H (up _ _ _ k.toOk0), fun ρ σ H k => is.ct ρ σ H (up _ _ _ k.toOk0)⟩ σ H ⟨o.toOk0, fun C dx ρ' σ' H' xs fs o' hx rf re => ?_⟩
  have k := hh C fs ρ' re
  have o2 := up _ _ _ o'
  have hx2 : sv c ρ' σ' H' dx = some (.xd xs) := hx
  have rf2 : RepF K.F (sv c ρ' σ' H') xs fs := rf
  clear hh hb re o' hx rf
  induction l with
  | nil => exact o2.xo C dx ρ' σ' H' xs fs o2.toOk0 hx2 rf2 k
  | cons cl r ih =>
    obtain ⟨cc, oi, ts⟩ := cl
    obtain ⟨b, e, hy, hn⟩ := k
    refine ⟨b, e, fun hb a ha => ?_, fun hb => ih (hn hb)⟩
    refine hy hb a dx c (endI oi D) ⟨fun ρ σ H k n => is.nx (offS oi ρ) (offI oi σ) H (k.off oi) n, fun ρ σ H v d k r rd => is.rt ρ σ H v d k r rd, fun ρ σ H a s k hx rs hp rd => is.rn ρ σ H a s k hx rs hp rd, fun ρ σ H k n => is.bk (offS oi ρ) (offI oi σ) H (k.off oi) n, fun ρ σ H k n => is.ct (offS oi ρ) (offI oi σ) H (k.off oi) n⟩ _ _ ?_
    cases oi with
    | none => exact o2
    | some i => exact o2.setD (s := .exc a dx C fs) (v := some (.ref a)) rfl ⟨xs, rfl, hx2, rf2⟩
theorem g_xf {w : Bool} {i : Nat} {a d C : Addr} {fs : List (Str × Dat)} {f : Str} {x : Dat} {R : Dat → Prop} (h : ρ[i]? = some (.exc a d C fs)) (l : fs.lookup f = some x) (k : R x) : G K w ρ (tXf a (.ref C) (some d) C f (tVar i)) R := fun c σ H o Q q => by
  obtain ⟨v, e, xs, rfl, hd, rf⟩ := o.get h
  refine ⟨.ref a, e, rfl, rfl, d, xs, ?_⟩
  obtain ⟨v, lv, rv⟩ := rf.lookup l
  exact ⟨v, rfl, vw_le d _ hd, lv, q v H x o .refl (rv.mono vw_up2) k⟩
end
end BV

end

section
set_option maxHeartbeats 4000000
/-! the __init__ of an own exception keeps its promise -/
namespace BV
open PySem PySem.Spec L2
def sE1 (f : Str) (A : Dat → Prop) : List Dat → List (Str × Dat) → Prop := fun ds fs => ∃ y, ds = [y] ∧ fs = [(f, y)] ∧ A y
def sE2 (f g : Str) (A : Dat → Dat → Prop) : List Dat → List (Str × Dat) → Prop := fun ds fs => ∃ y z, ds = [y, z] ∧ fs = [(g, z), (f, y)] ∧ A y z
/-- the slots at the entry -/
def startE (n : Nat) (ds : List Dat) : LS := .no :: (ds.map Slot.d ++ List.replicate n .no)
theorem startE_ok {K : PySem.W.Frag} {P : Addr → Prop} {H : Hp} {a : Addr} {us : List V} {ds : List Dat} {N : List Str} (hp : ∀ b, P b → ∃ o, H b = some o) (r : RepL K (hid P H) us ds) (hN : N.length = us.length + 1 + n) (hn : 1 ≤ n) :
    Ok (KB.of K) ⟨P, fun _ => False, H⟩ (startE n ds) (NdefX.startF N (.ref a :: us) [none]) H := by
  have e : NdefX.startF N (.ref a :: us) [none] = some (.ref a) :: (us.map some ++ List.replicate n none) := by
    unfold NdefX.startF
    have z : N.length - (V.ref a :: us).length - [(none : Option V)].length = n - 1 := by
      rw [List.length_cons, hN]
      show us.length + 1 + n - (us.length + 1) - 1 = n - 1
      omega
    rw [z]
    obtain ⟨m, rfl⟩ : ∃ m, n = m + 1 := ⟨n - 1, by omega⟩
    rfl
  rw [e]
  have get : ∀ (i : Nat) (s : Slot) (v : Option V), (startE n ds)[i]? = some s → (some (V.ref a) :: (us.map some ++ List.replicate n none))[i]? = some v → s = .no ∨ ∃ x u, s = .d x ∧ v = some u ∧ Rep K (hid P H) u x := fun i s v h1 h2 => by
    unfold startE at h1
    cases i with
    | zero => left; simp at h1; exact h1.symm
    | succ i =>
      rw [List.getElem?_cons_succ] at h1 h2
      by_cases hi : i < ds.length
      · right
        rw [List.getElem?_append_left (by simpa using hi), List.getElem?_map] at h1
        rw [List.getElem?_append_left (by rw [List.length_map, r.length]; exact hi), List.getElem?_map] at h2
        cases e1 : ds[i]? with
        | none => rw [e1] at h1; cases h1
        | some x =>
          rw [e1] at h1
          cases h1
          obtain ⟨u, e2, ru⟩ := r.get e1
          rw [e2] at h2
          cases h2
          exact ⟨x, u, rfl, rfl, ru⟩
      · left
        rw [List.getElem?_append_right (by simpa using hi), List.getElem?_replicate] at h1
        split at h1
        · cases h1; rfl
        · cases h1
  have nop : ∀ b, ¬ Pr (startE n ds) (some (V.ref a) :: (us.map some ++ List.replicate n none)) b := fun b ⟨i, s', v', h1, h2, h3⟩ => by
    rcases get i s' v' h1 h2 with e | ⟨y, u, e, _⟩
    · rw [e] at h3; cases h3
    · rw [e] at h3; cases h3
  refine ⟨⟨?_, fun i s' v' h1 h2 => ?_, fun i j s1 v1 s2 v2 b g1 g2 g3 => absurd ⟨i, s1, v1, g1, g2, g3⟩ (nop b), fun b h => absurd h (nop b), fun _ _ _ h => h, fun b h => absurd h (nop b), hp⟩, .of⟩
  · unfold startE
    simp [r.length]
  · rcases get i s' v' h1 h2 with e | ⟨y, u, e, e2, ru⟩
    · rw [e]; trivial
    · rw [e, e2]
      refine ⟨u, rfl, ru.mono (hid_ex fun b ob hb e => ⟨fun z => ?_, e⟩)⟩
      rcases z with z | z
      · exact hb z
      · rw [if_neg Bool.false_ne_true] at z; exact nop b z
section
variable {P : Program} {w : World} {K : PySem.W.Frag} {mg : Str → Option Value} {base : Heap} {k : Nat} {x qual : Str} {st : Stmt} {f cc cda D : Addr} {fd : FuncData} {N ps : List Str} {p0 p1 p2 p3 p4 : Pos} {e : Expr} {es : List Expr} {rest : List Stmt} {ar : Arg} {pl : Env → Sem Bool} {n : Nat}
theorem okE1 {fl : Str} {Ay : Dat → Prop} (F : FunS K x qual st f cc cda fd) (S : NdefX.NScope N ps ["__class__"] (defScope st)) (U : SupC P K mg D cc cda)
    (hbd : defBody st = .Expr (.Call (.Attribute (.Call (.Name "super" p0) [] [] p1) "__init__" p2) (e :: es) [] p3) p4 :: rest)
    (hp : ((defArgs st).posonlyargs ++ (defArgs st).args).head? = some ar) (har : ps[0]? = some ar.arg) (hks : (defScope st).names.lookup ("super" : Str) = some .globalImplicit) (hnd : ps.Nodup)
    (hc : ∀ env : Env, eval (.Call (.Attribute (.Call (.Name "super" p0) [] [] p1) "__init__" p2) (e :: es) [] p3) env = (do
      let ov ← attributeBase (.Call (.Name "super" p0) [] [] p1) "__init__" env (eval (.Call (.Name "super" p0) [] [] p1) env)
      standAt p2.atName
      let (f, first) ← holding [ov] (getMethod ov "__init__" (pl env))
      callWith p3 f first (backTo p3 (starEach (e :: es) env)) []))
    (hse : ∀ env : Env, starEach (e :: es) env = (false, eval e env) :: starEach es env) (hpl : ∀ env : Env, (backTo p3 (starEach es env)).any (·.1) = false) (hsw : ∀ env : Env, swapsWith (.Call (.Attribute (.Call (.Name "super" p0) [] [] p1) "__init__" p2) (e :: es) [] p3) none p4.line env = pure false)
    (hl : ps.length = 2) (hN : N.length = 2 + n) (hn : 1 ≤ n)
    (hbody : ∀ (A : Around) (outer : List Env) (s : Shared) (H : Hp) (E : XK), Room k (A.deeper (NdefX.envF (nfOf x qual st cc cda) f s.heap.objs.size)) →
      ∃ t, PA (NdefX.ncx CX0 P w K mg base N (nfOf x qual st cc cda) f A outer s H E) (e :: es) t ∧ PSs (NdefX.ncx CX0 P w K mg base N (nfOf x qual st cc cda) f A outer s H E) rest (tOst K fl (tVar 0) (tVar 1)) ∧ ∀ y, Ay y → GA (KB.of K) false (startE n [y]) t fun ds => ds.length ≤ 1000) :
    FnOk P w K mg base CX0 (k + 1) f fd ps (spE K D (sE1 fl Ay)) := by
  refine fnS F S U hbd hp har hks hnd hc hse hpl hsw (fun vs H Q E h => ?_) fun A outer s H vs Q E hr h => ?_
  · obtain ⟨_, _, _, us, ds, fs, rfl, _, _, _, _, _, _, r, ⟨y, rfl, _⟩, _⟩ := h
    rw [List.length_cons, r.length, hl]; rfl
  · obtain ⟨Pp, a, C, us, ds, fs, rfl, oex, sx, hf, ha, pa, hpt, r, ⟨y, rfl, rfl, hy⟩, kq⟩ := h
    obtain ⟨t, ht, htr, run⟩ := hbody A outer s H E hr
    refine ⟨t, _, ht, htr, a, C, rfl, oex, sx, ha, ?_⟩
    have o := startE_ok (a := a) (N := N) (n := n) hpt r (by rw [r.length, hN]; rfl) hn
    obtain ⟨u, rfl, ru⟩ : ∃ u, us = [u] ∧ Rep K (hid Pp H) u y := by
      cases r with
      | cons r1 r2 => cases r2; exact ⟨_, rfl, r1⟩
    refine run y hy _ _ _ o _ fun vs H2 ds o2 l2 r2 hl2 => ⟨by rw [r2.length]; exact hl2, ?_, ?_⟩
    · exact o2.fr a _ (fun z => z) ha
    · refine ⟨u, by unfold NdefX.startF; rfl, .ref a, by unfold NdefX.startF; rfl, a, C, rfl, oex, hf _ List.mem_cons_self, .inl ⟨o2.fr a _ (fun z => z) ha, fun dx hdx ne => ?_⟩⟩
      have hHd : H dx = none := by
        cases e : H dx with
        | none => rfl
        | some ob => rw [o2.fr dx ob (fun z => z) e] at hdx; cases hdx
      refine kq _ dx [(fl, u)] (fun b ob hb e => ?_) upd_same (by rw [upd_ne ne]; exact upd_same) hHd (.cons ru .nil)
      rw [upd_ne hb, upd_ne (fun z => by rw [z, hHd] at e; cases e)]
      exact o2.fr b ob (fun z => z) e
end
end BV

end

section
set_option maxHeartbeats 4000000
/-! own operators and own `in`, which may let an exception out; own == against a tuple -/
namespace BV
open PySem PySem.Spec L2
section
variable {X : Cx} {pins : List (Addr × Obj)} {σ : L2.St} {H : Hp} {s : Shared} {CX : CXT} {k : Nat} {f C : Addr} {sp : Sp} {E : L2.St → XK}
theorem run_fnRS {Q : VK} {us : List Value} {vs : List V} (F : FnR X.prog X.w X.K X.mg X.base CX k f sp) (hr : Room k X.A) (hx : PassesAt CX X σ (E σ)) (I : Inv X pins σ H s) (r : Vals vs us) (h : sp vs H Q (E σ)) :
    codeAny (model X.prog X.w) X.A (.call (.ref f) ⟨us, []⟩) (fun r s' => match r with | .ok (.ret v) => EP X pins σ Q v s' | .ok _ => False | .error e => X.xe e s') s := by
  refine codeAny_mono (F X.A X.stack s H us vs Q (E σ) hr I.env0 r h) fun r s' hq => ?_
  cases r with
  | error e => exact hx pins H s e s' I hq
  | ok fl =>
    cases fl with
    | ret u => exact I.after hq
    | _ => exact False.elim hq
abbrev R2S := L2.St → R2
def OpRS (X : Cx) (f : Value → Value → Sem Value) (r : R2S) : Prop :=
  ∀ (pins : List (Addr × Obj)) (s : Shared) (σ : L2.St) (H : Hp) (x y : V) (v u : Value) (Q : VK), Inv X pins σ H s → RelV x v → RelV y u → r σ x y H Q → wpAny (model X.prog X.w) X.A (f v u) (EP X pins σ Q) X.xe s
def tOpS (r : R2S) (ta tb : TE) : TE := fun σ H Q => ta σ H fun x H1 => tb σ H1 fun y H2 => r σ x y H2 Q
variable {a b : Expr} {ta tb : TE} {pos : Pos}
theorem pe_opS {op : Operator} {r : R2S} (ho : OpRS X (binaryOp op) r) (ha : PE X a ta) (hb : PE X b tb) : PE X (.BinOp a op b pos) (tOpS r ta tb) :=
  ⟨fun pins s σ H Q I h => wpAny_BinOp (binT ha hb I h fun v u s2 x y H2 I2 rx ry q => ho pins s2 σ H2 x y v u Q I2 rx ry q)⟩
theorem pe_cmpRS {op : CmpOp} {r : R2S} (ho : OpRS X (compareOp op) r) (ha : PE X a ta) (hb : PE X b tb) (hm : behindInMarks op b = false) : PE X (.Compare a [op] [b] pos) (tOpS r ta tb) :=
  ⟨fun pins s σ H Q I h => wpAny_Compare1 (binT ha hb I h fun v u s2 x y H2 I2 rx ry q => ho pins s2 σ H2 x y v u Q I2 rx ry q) hm⟩
theorem pt_cmpRS {op : CmpOp} {r : R2S} (ho : OpRS X (compareOp op) r) (ha : PE X a ta) (hb : PE X b tb) (hm : behindInMarks op b = false) : PT X (.Compare a [op] [b] pos) (tTest (tOpS r ta tb)) := by
  refine ⟨fun pins s σ H Q I h => ?_⟩
  refine wpAny_isTrue_Compare1 (thn (ha.run pins s σ H _ I h) fun v s1 ⟨x, H1, I1, r1, q1⟩ => thn (hb.run pins s1 σ H1 _ I1 q1) fun u s2 ⟨y, H2, I2, r2, q2⟩ =>
    thn (ho pins s2 σ H2 x y v u _ I2 r1 r2 q2) fun c s3 ⟨z, H3, I3, r3, k, e, q3⟩ => ?_) hm
  subst e
  cases r3
  exact wpAny_truthy_bool ⟨H3, I3, q3⟩
/-- x op y by x's own way; an object comes back -/
def rBinO (C : Addr) (sp : Sp) (E : L2.St → XK) : R2S := fun σ x y H Q => ∃ a dx fs b dy gs, x = .ref a ∧ y = .ref b ∧ H a = some (.ins C dx fs) ∧ H b = some (.ins C dy gs) ∧ sp [.ref a, .ref b] H (fun v H2 => (∃ r, v = .ref r) ∧ Q v H2) (E σ)
theorem op_binO {op : Operator} (M : Spm X.K C (PySem.dunder op.info.2) f) (hs : PySem.W.selfFirst X.K C = true) (F : FnR X.prog X.w X.K X.mg X.base CX k f sp) (hr : Room k X.A) (hx : ∀ σ, PassesAt CX X σ (E σ)) : OpRS X (binaryOp op) (rBinO C sp E) := by
  intro pins s σ H x y v u Q I rx ry h
  obtain ⟨a, dx, fs, b, dy, gs, ex, ey, ea, eb, q⟩ := h
  subst ex ey
  obtain rfl : v = Value.ref a := rx
  obtain rfl : u = Value.ref b := ry
  obtain ⟨mA, J, _⟩ := ins_get I.hok ea
  obtain ⟨mB, J', _⟩ := ins_get I.hok eb
  obtain ⟨od, J, _⟩ := J.look
  obtain ⟨od', J', _⟩ := J'.look
  obtain ⟨m, hF⟩ := I.fr
  refine PySem.W.binop_K hF I.ok.mod.kin J J'.type hs M.at_ M.fn (wpAny_mono (wpAny_call (run_fnRS (us := [.ref a, .ref b]) (vs := [.ref a, .ref b]) F hr (hx σ) I (.cons rfl (.cons rfl .nil)) q)) (fun u s2 z => ?_) fun _ _ e => e)
  obtain ⟨v, H2, I2, rv, ⟨r, ev⟩, q2⟩ := z
  subst ev
  cases (show u = Value.ref r from rv)
  exact ⟨.ref r, H2, I2, rfl, q2⟩
/-- x in y by y's own way -/
def rInO (C : Addr) (sp : Sp) (E : L2.St → XK) : R2S := fun σ x y H Q => ∃ a dx fs, y = .ref a ∧ H a = some (.ins C dx fs) ∧ sp [.ref a, x] H (fun v H2 => ∃ b, v = .bl b ∧ Q (.bl b) H2) (E σ)
theorem op_inO (M : Spm X.K C "__contains__" f) (F : FnR X.prog X.w X.K X.mg X.base CX k f sp) (hr : Room k X.A) (hx : ∀ σ, PassesAt CX X σ (E σ)) : OpRS X (compareOp .In) (rInO C sp E) := by
  intro pins s σ H x y v u Q I rx ry h
  obtain ⟨a, dx, fs, ey, ea, q⟩ := h
  subst ey
  obtain rfl : u = Value.ref a := ry
  obtain ⟨mA, J, _⟩ := ins_get I.hok ea
  obtain ⟨od, J, _⟩ := J.look
  obtain ⟨m, hF⟩ := I.fr
  refine PySem.W.in_K hF I.ok.mod.kin J M.at_ M.fn (wpAny_mono (wpAny_call (run_fnRS (us := [.ref a, v]) (vs := [.ref a, x]) F hr (hx σ) I (.cons rfl (.cons rx .nil)) q)) (fun u s2 z => ?_) fun _ _ e => e)
  obtain ⟨v, H2, I2, rv, b, ev, q2⟩ := z
  subst ev
  cases (show u = Value.bool b from rv)
  exact wpAny_truthy_bool ⟨.bl b, H2, I2, rfl, q2⟩
/-- x == y by x's own way, y a tuple -/
def rEqT (K : PySem.W.Frag) (C : Addr) (sp : Sp) (E : L2.St → XK) : R2S := fun σ x y H Q => ∃ a dx fs b ys, x = .ref a ∧ y = .ref b ∧ H a = some (.ins C dx fs) ∧ SqT K H b ys ∧ sp [.ref a, .ref b] H (fun v H2 => ∃ b, v = .bl b ∧ Q (.bl b) H2) (E σ)
theorem op_eqT (M : Spm X.K C "__eq__" f) (hn : PySem.W.notFirst X.K C (.type "tuple") = true) (F : FnR X.prog X.w X.K X.mg X.base CX k f sp) (hr : Room k X.A) (hu : X.A.units < cLine) (hx : ∀ σ, PassesAt CX X σ (E σ)) : OpRS X (compareOp .Eq) (rEqT X.K C sp E) := by
  intro pins s σ H x y v u Q I rx ry h
  obtain ⟨a, dx, fs, b, ys, ex, ey, ea, eb, q⟩ := h
  subst ex ey
  obtain rfl : v = Value.ref a := rx
  obtain rfl : u = Value.ref b := ry
  obtain ⟨mA, J, _⟩ := ins_get I.hok ea
  obtain ⟨od, J, _⟩ := J.look
  obtain ⟨its, _, ⟨ot, e1, e2, _⟩, _⟩ := I.tuple eb
  obtain ⟨m, hF⟩ := I.fr
  have hT : PySem.W.Looks (model X.prog X.w) s.heap (typeOf (.ref b)) (.type "tuple") := fun A Q E s k q => wpAny_typeOf_ref (k _ _ e1) (by rw [e2]; exact q)
  refine PySem.W.cmp_K (op := .Eq) (tb := .type "tuple") hu hF I.ok.mod.kin J hT hn M.at_ M.fn (wpAny_mono (wpAny_call (run_fnRS (us := [.ref a, .ref b]) (vs := [.ref a, .ref b]) F hr (hx σ) I (.cons rfl (.cons rfl .nil)) q)) (fun u s2 z => ?_) fun _ _ e => e)
  obtain ⟨v, H2, I2, rv, b, ev, q2⟩ := z
  subst ev
  cases (show u = Value.bool b from rv)
  exact ⟨.bl b, H2, I2, rfl, q2⟩
end
/-! ### by data -/
def Op2S (K : KB) (w1 w2 : Bool) (ρ : List Slot) (r : R2S) (x y : Dat) (R : Dat → Prop) : Prop := ∀ c σ H u v, Ok K c ρ σ H → Rep K (vw c w1 ρ σ H) u x → Rep K (vw c w1 ρ σ H) v y → ∀ Q : VK, (∀ z H2 d, Ok K c ρ σ H2 → Le c ρ σ H H2 → Rep K (vw c w2 ρ σ H2) z d → R d → Q z H2) → r σ u v H Q
section
variable {K : KB} {w w1 : Bool} {ρ : LS} {R : Dat → Prop} {ta tb : TE} {C : Addr} {fs gs : List (Str × Dat)} {x : Dat}
theorem g_opRS {r : R2S} (h : G K w ρ ta fun x => G K w ρ tb fun y => Op2S K w w ρ r x y R) : G K w ρ (tOpS r ta tb) R := fun c σ H o Q q =>
  h c σ H o _ fun u H1 x o1 l1 r1 h1 => h1 c σ H1 o1 _ fun v H2 y o2 l2 r2 h2 => h2 c σ H2 u v o2 (r1.mono l2.vw) r2 Q fun z H3 d o3 l3 r3 h3 => q z H3 d o3 ((l1.trans l2).trans l3) r3 h3
def IsObj (d : Dat) : Prop := ∃ C fs, d = .obj C fs
theorem IsObj.ref {F : PySem.W.Frag} {B : Hp} {v : V} {d : Dat} (h : IsObj d) (r : Rep F B v d) : ∃ a, v = .ref a := by
  obtain ⟨C, fs, rfl⟩ := h
  cases r
  exact ⟨_, rfl⟩
theorem o2_binX {S : List Dat → (Dat → Prop) → RX → Prop} (h : ∃ RE, S [.obj C fs, .obj C gs] (fun d => IsObj d ∧ R d) RE ∧ ∀ C fs, RE C fs → K.RE C fs ρ) : Op2S K false false ρ (rBinO C (spX K.F S) (WE K.E)) (.obj C fs) (.obj C gs) R := fun c σ H u v o r1 r2 Q q => by
  obtain ⟨RE, hS, kx⟩ := h
  cases r1 with
  | @obj a _ dx xs _ ha rf =>
  cases r2 with
  | @obj b _ dy ys _ hb rg =>
  exact ⟨a, dx, xs, b, dy, ys, rfl, rfl, vw_le a _ ha, vw_le b _ hb, _, [.obj C fs, .obj C gs], _, RE, o.trk (w := false), .cons (.obj ha rf) (.cons (.obj hb rg) .nil), hS, fun v H' d e rv rd => ⟨rd.1.ref rv, q _ H' _ (o.ex e) e.le rv rd.2⟩, fun C' dx' H' xs' fs' e hx rf' re => XOk.call o e hx rf' (kx C' fs' re)⟩
theorem o2_binF {E : L2.St → XK} {S : List Dat → (Dat → Prop) → Prop} (h : S [.obj C fs, .obj C gs] fun d => IsObj d ∧ R d) : Op2S K w w ρ (rBinO C (spF K.F S) E) (.obj C fs) (.obj C gs) R := fun c σ H u v o r1 r2 Q q => by
  cases r1 with
  | @obj a _ dx xs _ ha rf =>
  cases r2 with
  | @obj b _ dy ys _ hb rg =>
  exact ⟨a, dx, xs, b, dy, ys, rfl, rfl, vw_le a _ ha, vw_le b _ hb, _, [.obj C fs, .obj C gs], _, o.trk (w := w), .cons (.obj ha rf) (.cons (.obj hb rg) .nil), h, fun v H' d e rv rd => ⟨rd.1.ref rv, q _ H' _ (o.ex e) e.le rv rd.2⟩⟩
theorem o2_inX {S : List Dat → (Dat → Prop) → RX → Prop} (h : ∃ RE, S [.obj C fs, x] (fun d => ∃ b, d = .bl b ∧ R (.bl b)) RE ∧ ∀ C fs, RE C fs → K.RE C fs ρ) : Op2S K false false ρ (rInO C (spX K.F S) (WE K.E)) x (.obj C fs) R := fun c σ H u v o r1 r2 Q q => by
  obtain ⟨RE, hS, kx⟩ := h
  cases r2 with
  | @obj a _ dx xs _ ha rf =>
  refine ⟨a, dx, xs, rfl, vw_le a _ ha, _, [.obj C fs, x], _, RE, o.trk (w := false), .cons (.obj ha rf) (.cons r1 .nil), hS, fun v H' d e rv rd => ?_, fun C' dx' H' xs' fs' e hx rf' re => XOk.call o e hx rf' (kx C' fs' re)⟩
  obtain ⟨t, ed, rb⟩ := rd
  subst ed
  cases rv
  exact ⟨t, rfl, q _ H' _ (o.ex e) e.le (.bl t) rb⟩
theorem o2_inF {E : L2.St → XK} {S : List Dat → (Dat → Prop) → Prop} (h : S [.obj C fs, x] fun d => ∃ b, d = .bl b ∧ R (.bl b)) : Op2S K w w ρ (rInO C (spF K.F S) E) x (.obj C fs) R := fun c σ H u v o r1 r2 Q q => by
  cases r2 with
  | @obj a _ dx xs _ ha rf =>
  refine ⟨a, dx, xs, rfl, vw_le a _ ha, _, [.obj C fs, x], _, o.trk (w := w), .cons (.obj ha rf) (.cons r1 .nil), h, fun v H' d e rv rd => ?_⟩
  obtain ⟨t, ed, rb⟩ := rd
  subst ed
  cases rv
  exact ⟨t, rfl, q _ H' _ (o.ex e) e.le (.bl t) rb⟩
theorem o2_eqT {E : L2.St → XK} {ds : List Dat} {S : List Dat → (Dat → Prop) → Prop} (h : S [.obj C fs, .tup ds] fun d => ∃ b, d = .bl b ∧ R (.bl b)) : Op2S K w w ρ (rEqT K.F C (spF K.F S) E) (.obj C fs) (.tup ds) R := fun c σ H u v o r1 r2 Q q => by
  cases r1 with
  | @obj a _ dx xs _ ha rf =>
  cases r2 with
  | @tup b ys _ hb rg =>
  refine ⟨a, dx, xs, b, ys, rfl, rfl, vw_le a _ ha, ex_t vw_le hb, _, [.obj C fs, .tup ds], _, o.trk (w := w), .cons (.obj ha rf) (.cons (.tup hb rg) .nil), h, fun v H' d e rv rd => ?_⟩
  obtain ⟨t, ed, rb⟩ := rd
  subst ed
  cases rv
  exact ⟨t, rfl, q _ H' _ (o.ex e) e.le (.bl t) rb⟩
end
theorem passS0 {X : Cx} {E : L2.St → XK} : ∀ σ, PassesAt CX0 X σ (E σ) := fun _ _ _ _ _ _ _ h => h.elim
end BV

end

section
set_option maxHeartbeats 4000000
/-! repr of data. It asks that no repr is under way: defs that use it are kept apart (FnG: the surroundings are known to bear no guard). -/
namespace BV
open PySem PySem.Spec L2
open PyProof.Rows (envOfC)
/-- a def in surroundings without guards -/
structure FnG (P : Program) (w : World) (K : PySem.W.Frag) (mg : Str → Option Value) (base : Heap) (CX : CXT) (k : Nat) (f : Addr) (fd : FuncData) (ps : List Str) (sp : Sp) : Prop where
  len : ∀ vs H Q E, sp vs H Q E → vs.length = ps.length
  run : ∀ (A : Around) (outer : List Env) (s : Shared) (H : Hp) (args : Args) (us : List Value) (vs : List V) (Q : VK) (E : XK), A.guards = some [] → Room k A → Env0 P w K mg base A outer s H → BindsTo s fd args (ps.zip us) → Vals vs us → sp vs H Q E →
    codeAny (model P w) A (.call (.ref f) args) (CR CX outer P w H s Q E) s
theorem FnOk.guarded {P : Program} {w : World} {K : PySem.W.Frag} {mg : Str → Option Value} {base : Heap} {CX : CXT} {k : Nat} {f : Addr} {fd : FuncData} {ps : List Str} {sp : Sp} (F : FnOk P w K mg base CX k f fd ps sp) : FnG P w K mg base CX k f fd ps sp := ⟨F.len, fun A outer s H args us vs Q E _ => F.run A outer s H args us vs Q E⟩
section
variable {X : Cx} {CX : CXT} {k : Nat} {f : Addr} {fd : FuncData} {ps : List Str} {sp : Sp} {E : XK} {x : Str} {p pos : Pos} {e : Expr} {es : List Expr} {t : TA}
theorem pe_callG (hG : X.A.guards = some []) (F : FnG X.prog X.w X.K X.mg X.base CX k f fd ps sp) (hr : Room k X.A) (hg : Gl X x) (hm : X.mg x = some (.ref f)) (hk : PySem.W.keepIn X.K (.ref f) = true) (hb : Binds X.K fd ps []) (hx : Passes CX X E)
    (ha : PA X (e :: es) t) (hdb : (x == ("__debug__" : Str)) = false := by decide) (he : starEach (e :: es) X.env = (false, eval e X.env) :: starEach es X.env := by rfl) (hpl : (backTo pos (starEach es X.env)).any (·.1) = false := by rfl) :
    PE X (.Call (.Name x p) (e :: es) [] pos) (tCall sp [] E t) := by
  refine ⟨fun pins s σ H Q I h => ?_⟩
  refine wpAny_Call_Name_kw (ld_glob I hg hm ?_ hdb)
  refine PySem.W.callWith_K (h₀ := X.base) I.ok.mod.kin hk (thn (ha.run pos pins s σ H _ I h) fun us s1 ⟨vs, H1, I1, r, q⟩ => ⟨I1.kIn, ?_⟩) he hpl
  have q : sp (vs ++ []) H1 Q E := q
  rw [List.append_nil] at q
  have hl : (us ++ []).length = ps.length := by rw [List.append_nil, ← r.length]; exact F.len _ _ _ _ q
  have b := hb s1 us I1.kIn hl
  rw [List.append_nil] at b
  refine wpAny_call (codeAny_mono (F.run X.A X.stack s1 H1 ⟨us, []⟩ us vs Q E hG hr I1.env0 b r q) fun r s' hq => ?_)
  cases r with
  | error e => exact hx pins σ H1 s1 e s' I1 hq
  | ok fl =>
    cases fl with
    | ret u => exact I1.after hq
    | _ => exact False.elim hq
end
theorem spF_start {K : PySem.W.Frag} {N : List Str} {S : List Dat → (Dat → Prop) → Prop} {vs : List V} {H : Hp} {Q : VK} {E : XK} {t : TS} (h : spF K S vs H Q E)
    (run : ∀ ds R, S ds R → Run (KB.of K) (startS N ds) t (fun _ => R .non) (fun r _ => ∃ d, r = .d d ∧ R d) (fun _ => False) fun _ => False) : t { nx := fun _ H' => Q .non H', rt := Q } (L2.start N vs) H := by
  obtain ⟨Pp, ds, R, hp, r, hS, kq⟩ := h
  have nop : ∀ a, ¬ Pr (startS N ds) (L2.start N vs) a := fun a ⟨i, s', v', h1, h2, h3⟩ => by
    rcases start_get r h1 h2 with e | ⟨y, u, e, _⟩
    · rw [e] at h3; cases h3
    · rw [e] at h3; cases h3
  have o : Ok (KB.of K) ⟨Pp, fun _ => False, H⟩ (startS N ds) (L2.start N vs) H := by
    refine ⟨⟨start_len r.length, fun i s' v' h1 h2 => ?_, fun i j s1 v1 s2 v2 a g1 g2 g3 => absurd ⟨i, s1, v1, g1, g2, g3⟩ (nop a), fun a h => absurd h (nop a), fun _ _ _ h => h, fun a h => absurd h (nop a), hp⟩, .of⟩
    rcases start_get r h1 h2 with e | ⟨y, u, e, e2, ru⟩
    · rw [e]; trivial
    · rw [e, e2]
      refine ⟨u, rfl, ru.mono (hid_ex fun b ob hb e => ⟨fun z => ?_, e⟩)⟩
      rcases z with z | z
      · exact hb z
      · rw [if_neg Bool.false_ne_true] at z; exact nop b z
  refine run ds R hS _ _ ⟨fun ρ' σ' H' o' n => ?_, fun ρ' σ' H' v d o' rv rd => ?_, fun ρ' σ' H' a s' o' hx rs hpa rd => ?_, fun _ _ _ _ z => z.elim, fun _ _ _ _ z => z.elim⟩ _ _ o
  · exact kq .non H' .non (fun b ob e => o'.fr b ob (fun z => z) e) .non n
  · obtain ⟨d', e, rd⟩ := rd
    cases e
    exact kq v H' d (fun b ob e => o'.fr b ob (fun z => z) e) (rv.mono (hid_ex fun b ob hb e => ⟨fun z => hb (.inl z), e⟩)) rd
  · obtain ⟨d', e, rd⟩ := rd
    cases e
section
variable {K : PySem.W.Frag} {P : Program} {wd : World} {mg : Str → Option Value} {base : Heap} {x qual : Str} {st : Stmt} {f : Addr} {fd : FuncData} {N ps : List Str} {k : Nat} {sp : Sp}
theorem Fun.okG (F : Fun K x qual st f fd) (S : FnScope N ps (defScope st)) (len : ∀ vs H Q E, sp vs H Q E → vs.length = ps.length)
    (hbody : ∀ (cdv : Value) (A : Around) (outer : List Env) (s : Shared) (H : Hp) (vs : List V) (Q : VK) (E : XK), A.guards = some [] → Room k (A.deeper (envOfC qual (defScope st) s.heap.objs.size f cdv)) → sp vs H Q E →
      ∃ t, PSs (cxOf CX0 P wd K mg base N qual (defScope st) f cdv A outer s H E).nox (defBody st) t ∧ t { nx := fun _ H' => Q .non H', rt := Q } (L2.start N vs) H) : FnG P wd K mg base CX0 (k + 1) f fd ps sp := by
  obtain ⟨oc, od, kV, doc, pm, an, cdv, ct, osl, rfl, lk, hcd⟩ := F.ex
  refine ⟨len, fun A outer s H args us vs Q E hG hr e0 hb r hsp => ?_⟩
  have hl := len _ _ _ _ hsp
  have kk : ∀ b o, base.get? b = some o → s.heap.get? b = some o := fun b o e => (e0.bs b o e).1
  have KX : K.In s.heap := e0.mod.kin.keeps kk
  refine codeAny_call_function hr.depth (KX _ _ lk) rfl S.co S.gen rfl (PySem.W.codeRec_of KX hcd) (hb _ _ _ _ ?_)
  refine wpAny_newFunctionEnv_cells S.kind (fun ⟨n, v⟩ hy => ?_) fun env he s1 x => ?_
  · rcases S.par n (List.of_mem_zip hy).1 with q | q
    · exact .inl q
    · exact .inr ⟨q, PySem.W.cellsFrom_some _ _ _ (.inl q)⟩
  subst he
  refine ⟨(e0.mod.nolimit.keeps kk).keeps x.toInCall.keep, codeAny_func ?_⟩
  obtain ⟨t, ht, hq⟩ := hbody cdv A outer s H vs Q E hG (hr.deeper _) hsp
  have I : Inv (cxOf CX0 P wd K mg base N qual (defScope st) f cdv A outer s H E) [] (L2.start N vs) H s1 := inv_start S hr.hd e0 hl r x
  refine wpAny_mono (ht.nox.run [] s1 (L2.start N vs) H _ I hq) (fun fl s' hs => ?_) fun e s' hs => hs
  have fin : ∀ {σ' : L2.St} {H' : Hp} {v : V} {u : Value}, Inv (cxOf CX0 P wd K mg base N qual (defScope st) f cdv A outer s H E) [] σ' H' s' → RelV v u → Q v H' → CE outer P wd H s Q u s' :=
    fun {σ' H' v u} J rv q => ⟨v, H', J.os, J.bare, J.base, J.hok, rv, q⟩
  cases fl with
  | ret u =>
    obtain ⟨v, σ', H', J, rv, q⟩ := hs
    exact fin J rv q
  | next =>
    obtain ⟨σ', H', J, q⟩ := hs
    exact fin (v := V.non) (u := Value.none) J rfl q
  | _ =>
    obtain ⟨_, _, _, q⟩ := hs
    exact False.elim q
theorem okG {S : List Dat → (Dat → Prop) → Prop} (F : Fun K x qual st f fd) (sc : FnScope N ps (defScope st)) (len : ∀ ds R, S ds R → ds.length = ps.length)
    (hb : ∀ (cdv : Value) (A : Around) (outer : List Env) (s : Shared) (H : Hp) (E : XK), A.guards = some [] → Room k (A.deeper (envOfC qual (defScope st) s.heap.objs.size f cdv)) →
      ∃ t, PSs (cxOf CX0 P wd K mg base N qual (defScope st) f cdv A outer s H E).nox (defBody st) t ∧ ∀ ds R, S ds R → Run (KB.of K) (startS N ds) t (fun _ => R .non) (fun r _ => ∃ d, r = .d d ∧ R d) (fun _ => False) fun _ => False) :
    FnG P wd K mg base CX0 (k + 1) f fd ps (spF K S) := by
  refine Fun.okG F sc (fun vs H Q E h => ?_) fun cdv A outer s H vs Q E hG hr h => ?_
  · obtain ⟨P, ds, R, _, r, hS, _⟩ := h
    rw [r.length]
    exact len ds R hS
  · obtain ⟨t, ht, run⟩ := hb cdv A outer s H E hG hr
    exact ⟨t, ht, spF_start h run⟩
end
/-! ### repr -/
def rReprD (K : PySem.W.Frag) : List V → Hp → VK → Prop := fun xs H Q => ∃ (v : V) (d : PyData), xs = [v] ∧ Dp K H v d ∧ d.showable = true ∧ d.hasDict = false ∧ d.depth ≤ 60 ∧ d.shown.length ≤ sizeLine ∧ Q (.str d.shown) H
theorem call_reprD {X : Cx} (hG : X.A.guards = some []) (hu : X.A.units + 65 < cLine) : CallR X (.builtin "repr") (rReprD X.K) := by
  intro pins s σ H xs us Q I r h
  obtain ⟨v, d, rfl, dp, hs, hd, hz, hl, q⟩ := h
  cases dp with
  | non =>
    obtain ⟨u, rfl, t⟩ := vals1 r
    cases (show u = Value.none from t)
    exact PySem.P.repr_of_none ⟨.str _, H, I.tok _, ⟨_, rfl⟩, q⟩
  | bl b =>
    obtain ⟨u, rfl, t⟩ := vals1 r
    cases (show u = Value.bool b from t)
    exact PySem.P.repr_of_bool ⟨.str _, H, I.tok _, ⟨_, rfl⟩, q⟩
  | int i =>
    obtain ⟨u, rfl, t, rfl⟩ := vals1 r
    exact PySem.P.repr_of_int (by simpa [PyData.showable] using hs) ⟨.str _, H, I.tok _, ⟨_, rfl⟩, q⟩
  | str z =>
    obtain ⟨u, rfl, t, rfl⟩ := vals1 r
    exact PySem.P.repr_of_str ⟨.str _, H, I.tok _, ⟨_, rfl⟩, q⟩ hl
  | @lst a xs ds h1 h2 =>
    obtain ⟨u, rfl, t⟩ := vals1 r
    obtain rfl : u = Value.ref a := t
    obtain ⟨as, rd⟩ := Dp.reads I _ _ _ (.lst h1 h2) (show RelV (.ref a) (.ref a) from rfl)
    exact PySem.repr_of_reads' rd hs (PyData.noDict_hsm hd) hG (by omega) (fun _ _ e => e) (fun h' u tk k => ⟨.str _, H, I.kept k, ⟨_, rfl⟩, q⟩) hl
  | @tup a xs ds h1 h2 =>
    obtain ⟨u, rfl, t⟩ := vals1 r
    obtain rfl : u = Value.ref a := t
    obtain ⟨as, rd⟩ := Dp.reads I _ _ _ (.tup h1 h2) (show RelV (.ref a) (.ref a) from rfl)
    exact PySem.repr_of_reads' rd hs (PyData.noDict_hsm hd) hG (by omega) (fun _ _ e => e) (fun h' u tk k => ⟨.str _, H, I.kept k, ⟨_, rfl⟩, q⟩) hl
end BV

end

section
set_option maxHeartbeats 4000000
/-! the law itself in surroundings without guards; repr by data -/
namespace BV
open PySem PySem.Spec L2
section
open PyProof.Rows
variable {P : Program} {w : World} {K : PySem.W.Frag} {mg mb : Str → Option Value} {k : Nat} {fa a : Addr} {fd : FuncData} {x : Str} {sp : Sp} {s₁ : Shared} {vs : List Value} {ns : List Int}
/-- the call at a heap of which nothing is tracked but, perhaps, the script -/
theorem callG0 {H : Hp} (hr : Room k callerA) (KX : K.In s₁.heap) (hns : s₁.heap.Ns mainGlobals mg) (hb : s₁.heap.Ns builtinsNs mb) (hbb : ∀ x : Str, x ≠ "__name__" → mb x = bootBuiltins x) (hlim : s₁.heap.NoLimit) (hg : s₁.gens = #[])
    (F : ∀ base : Heap, K.In base → base.Ns mainGlobals mg → FnG P w K mg base CX0 k fa fd [x] sp) (hbind : ∀ (s : Shared) (u : Value), BindsTo s fd ⟨[u], []⟩ [(x, u)])
    (hO : Only H) (hok : HOk P w H s₁.heap) (hA : ∀ b o, H b ≠ none → s₁.heap.get? b = some o → o.cls = .type "list") (hK : ∀ b, H b ≠ none → K.lookup b = none) (hd : ∀ b o es ep, H b ≠ none → s₁.heap.get? b = some o → o.data ≠ .dict es ep)
    (hsp : sp [.ref a] H (fun v _ => v = .bl true) fun _ _ _ => False) :
    codeAny (model P w) callerA (.call (.ref fa) ⟨[.ref a], []⟩) (fun r s' => r = .ok (.ret (.bool true)) ∧ OldK s₁.heap s'.heap ∧ s'.os = s₁.os ∧ AllBare s'.gens) s₁ := by
  have free : ∀ {b : Addr} {o : Obj}, s₁.heap.get? b = some o → (H b ≠ none → False) → (hidT s₁.heap H).get? b = some o := fun {b o} e n => hidT_get e (Classical.byContradiction n)
  have nsK : ∀ {b : Addr} {m : Str → Option Value}, s₁.heap.Ns b m → (hidT s₁.heap H).Ns b m := fun {b m} ⟨o, es, ep, e, d, r⟩ => ⟨o, es, ep, free e fun n => hd b o es ep n e d, d, r⟩
  have hKb : K.In (hidT s₁.heap H) := fun b o e => free (KX b o e) fun n => by rw [hK b n] at e; cases e
  have e0 : Env0 P w K mg (hidT s₁.heap H) callerA [] s₁ H :=
    ⟨rfl, ⟨hKb, nsK hns, ⟨mb, nsK hb, hbb⟩, let ⟨mc, h1, h2⟩ := hlim; ⟨mc, nsK h1, h2⟩⟩, fun b o e => of_hidT e, Nat.le_of_eq (hidT_size _ _), trivial, fun b hb => absurd (show b ∈ ([] : List Addr) from hb) (by simp), hok, .of_eq hg⟩
  refine codeAny_mono ((F _ hKb (nsK hns)).run callerA [] s₁ H ⟨[.ref a], []⟩ [.ref a] [.ref a] _ _ rfl hr e0 (hbind s₁ (.ref a)) (.cons rfl .nil) hsp) fun r s' h => ?_
  cases r with
  | error e => exact False.elim h
  | ok fl =>
    cases fl with
    | ret u =>
      obtain ⟨v, H', os, bare, un, hok', r', q⟩ := h
      have q' : v = .bl true := q
      subst q'
      obtain rfl : u = Value.bool true := r'
      refine ⟨rfl, OldK.of_keep fun b o e => ?_, os, bare⟩
      rcases hO b with z | ⟨ob, xs, z⟩
      · exact un.keep b o e z (by intro z; exact absurd (show b ∈ ([] : List Addr) from z) (by simp)) (by simp)
      · obtain ⟨e1, _⟩ := hok b _ z
        obtain ⟨e2, _⟩ := hok' b _ (un.frzs b ob _ z)
        rw [e] at e1; cases e1
        exact e2
    | _ => exact False.elim h
theorem law_callG (KX : K.In s₁.heap) (hns : s₁.heap.Ns mainGlobals mg) (hb : s₁.heap.Ns builtinsNs mb) (hbb : ∀ x : Str, x ≠ "__name__" → mb x = bootBuiltins x) (hlim : s₁.heap.NoLimit) (hg : s₁.gens = #[])
    (ha : s₁.heap.get? a = some { cls := .type "list", data := .seq vs.toArray }) (hi : IntsAre vs ns) (hl : ns.length ≤ sizeLine) (hr : Room k callerA)
    (F : ∀ base : Heap, K.In base → base.Ns mainGlobals mg → FnG P w K mg base CX0 k fa fd [x] sp) (hbind : ∀ (s : Shared) (u : Value), BindsTo s fd ⟨[u], []⟩ [(x, u)])
    (hsp : ∀ H : Hp, Only H → SqL K H a (ns.map V.int) → sp [.ref a] H (fun v _ => v = .bl true) fun _ _ _ => False) :
    codeAny (model P w) callerA (.call (.ref fa) ⟨[.ref a], []⟩) (fun r s' => r = .ok (.ret (.bool true)) ∧ OldK s₁.heap s'.heap ∧ s'.os = s₁.os ∧ AllBare s'.gens) s₁ := by
  have rv := vals_ints hi
  have lenV := hi.length
  cases hk : K.lookup a with
  | some o =>
    have e := KX a o hk
    rw [ha] at e
    cases e
    have hO : Only (fun _ => none) := fun _ => .inl rfl
    have hS : SqL K (fun _ => none) a (ns.map V.int) := .inr ⟨_, vs.toArray, _, hk, rfl, rfl, rfl, by rw [List.size_toArray, lenV]; exact hl, by simpa using rv⟩
    exact callG0 hr KX hns hb hbb hlim hg F hbind hO (fun b u z => by have z' : (none : Option HO) = some u := z; cases z') (fun b o z _ => absurd rfl z) (fun b z => absurd rfl z) (fun b o es ep z _ => absurd rfl z) (hsp _ hO hS)
  | none =>
    let H : Hp := fun b => if b = a then some (.frz { cls := .type "list", data := .seq vs.toArray } (.lst (ns.map V.int))) else none
    have hHa : H a = some (.frz { cls := .type "list", data := .seq vs.toArray } (.lst (ns.map V.int))) := if_pos rfl
    have only : ∀ b, H b ≠ none → b = a := fun b z => by
      by_cases hb : b = a
      · exact hb
      · exact absurd (if_neg hb) z
    have hO : Only H := fun b => by
      by_cases hb : b = a
      · subst hb; exact .inr ⟨_, _, hHa⟩
      · exact .inl (if_neg hb)
    have hS : SqL K H a (ns.map V.int) := .inl (.inr ⟨_, hHa⟩)
    refine callG0 hr KX hns hb hbb hlim hg F hbind hO (fun b u z => ?_) (fun b o z e => ?_) (fun b z => ?_) (fun b o es ep z e d => ?_) (hsp _ hO hS)
    · have eb := only b (by rw [z]; simp)
      subst eb
      rw [hHa] at z
      cases z
      exact ⟨ha, by rw [List.length_map]; exact hl, vs, _, rv, ha⟩
    · have eb := only b z
      subst eb
      rw [ha] at e; cases e; rfl
    · rw [only b z]; exact hk
    · have eb := only b z
      subst eb
      rw [ha] at e; cases e
      have d' : Data.seq vs.toArray _ = Data.dict es ep := d
      cases d'
end
theorem walk_ofG {l : PySem.W.OpenLaw} {n k : Nat} {q : Program} {loose : List Str} {XP : (Str → Option Value) → Heap → Prop} {YP : World → Heap → Prop} {d : DefRec} {K : Params → PySem.W.Frag} {sp : World → Sp} {x : Str}
    (hn : l.most = some n) (hn2 : n ≤ sizeLine) (hdf : d.params.defaults = []) (hr : Room k callerA)
    (hY : ∀ (w : World) (h : Heap), YP w h → (K w.params).In h)
    (F : ∀ (w : World) (mg : Str → Option Value) (fa : Addr) (h : Heap), (K w.params).In h → h.Ns mainGlobals mg → mg d.name = some (.ref fa) →
      ∃ fd : FuncData, (∀ (s : Shared) (u : Value), BindsTo s fd ⟨[u], []⟩ [(x, u)]) ∧ ∀ base : Heap, (K w.params).In base → base.Ns mainGlobals mg → FnG l.prog w (K w.params) mg base CX0 k fa fd [x] (sp w))
    (hsp : ∀ (w : World) (H : Hp) (a : Addr) (ns : List Int), ns.length ≤ n → (∀ z ∈ ns, Builtin.Int.intBits z ≤ 1048576) → Only H → SqL (K w.params) H a (ns.map V.int) → sp w [.ref a] H (fun v _ => v = .bl true) fun _ _ _ => False) :
    PySem.W.WalkO q loose XP YP l.row.toRowW d [] (fun f vs => PySem.call f vs) := by
  refine Att.attach_callB hn hdf fun w s₀ s₁ mg mb fa o pm cd doc a vs ns G Y ho hd hcd hmg hobj hints hlen hbits hg => ?_
  have KX := hY w _ Y
  obtain ⟨fd, hb, hF⟩ := F w mg fa _ KX G.T.g hmg
  exact law_callG KX G.T.g G.T.b G.T.builtins G.T.nolimit hg hobj hints (Nat.le_trans hlen hn2) hr hF hb fun H hO hS => hsp w H a ns hlen hbits hO hS
/-! ### repr by data -/
mutual
theorem toP_noDict : ∀ d : Dat, (toP d).hasDict = false
  | .tup ds => by unfold toP; simp only [PyData.hasDict]; exact toPs_noDict ds
  | .lst ds => by unfold toP; simp only [PyData.hasDict]; exact toPs_noDict ds
  | .non => rfl
  | .bl _ => rfl
  | .int _ => rfl
  | .str _ => rfl
  | .scr _ => rfl
  | .dk _ => rfl
  | .dt _ => rfl
  | .fk _ => rfl
  | .obj _ _ => rfl
  | .oth _ => rfl
theorem toPs_noDict : ∀ ds : List Dat, PyData.hasDictAll (toPs ds) = false
  | [] => rfl
  | d :: ds => by unfold toPs; simp only [PyData.hasDictAll]; rw [toP_noDict d, toPs_noDict ds]; rfl
end
/-- what repr says -/
def shows (d : Dat) : List Nat := (toP d).shown.cps.toList
structure Shw (d : Dat) : Prop where
  pl : pln d = true
  sh : (toP d).showable = true
  dp : (toP d).depth ≤ 60
  ln : (toP d).shown.length ≤ sizeLine
section
variable {K : KB} {w w1 : Bool} {ρ : LS} {R : Dat → Prop}
theorem oc_reprD {d : Dat} (h : Shw d) (k : R (.str (shows d))) : OpC K w1 w ρ (rReprD K.F) [d] R := fun c σ H us o r Q q => by
  cases r with
  | cons r1 r2 =>
  cases r2
  exact ⟨_, toP d, rfl, Dp.monoL vw_le _ _ (dp_of _ _ r1 h.pl), h.sh, toP_noDict d, h.dp, h.ln, q _ H _ o .refl (rep_str _) k⟩
end
mutual
/-- data whose repr is short: ints below 10^50 -/
def nice : Dat → Bool
  | .non => true
  | .bl _ => true
  | .int i => decide (i.natAbs < 10 ^ 50)
  | .str w => w.all fun c => decide (c < 16 ^ 8)
  | .tup ds => niceL ds
  | .lst ds => niceL ds
  | _ => false
def niceL : List Dat → Bool
  | [] => true
  | d :: ds => nice d && niceL ds
end
mutual
theorem nice_pln : ∀ d : Dat, nice d = true → pln d = true
  | .tup ds, h => by unfold nice at h; unfold pln; exact niceL_pln ds h
  | .lst ds, h => by unfold nice at h; unfold pln; exact niceL_pln ds h
  | .non, _ => rfl
  | .bl _, _ => rfl
  | .int _, _ => rfl
  | .str _, _ => rfl
theorem niceL_pln : ∀ ds : List Dat, niceL ds = true → plnL ds = true
  | [], _ => rfl
  | d :: ds, h => by unfold niceL at h; unfold plnL; rw [Bool.and_eq_true] at h ⊢; exact ⟨nice_pln d h.1, niceL_pln ds h.2⟩
end
mutual
theorem nice_show : ∀ d : Dat, nice d = true → (toP d).showable = true ∧ (toP d).leavesShort 60 = true
  | .tup ds, h => by unfold nice at h; unfold toP; simp only [PyData.showable, PyData.leavesShort]; exact niceL_show ds h
  | .lst ds, h => by unfold nice at h; unfold toP; simp only [PyData.showable, PyData.leavesShort]; exact niceL_show ds h
  | .non, _ => ⟨rfl, rfl⟩
  | .bl _, _ => ⟨rfl, rfl⟩
  | .int i, h => by
    unfold nice at h
    have h' : i.natAbs < 10 ^ 50 := by simpa using h
    unfold toP
    simp only [PyData.showable, PyData.leavesShort, decide_eq_true_eq]
    refine ⟨?_, ?_⟩
    · by_cases z : i.natAbs = 0
      · rw [z]; decide
      · have p1 : (10 : Nat) ^ 50 ≤ 2 ^ 200 := by decide
        have p2 : (2 : Nat) ^ 200 ≤ 2 ^ 1920 := Nat.pow_le_pow_right (by decide) (by decide)
        have : i.natAbs < 2 ^ 1920 := Nat.lt_of_lt_of_le h' (Nat.le_trans p1 p2)
        exact (Nat.log2_lt z).mpr this
    · have := int_text_length_le10 (a := i) (k := 50) (by decide) h'
      show (Str.ofString (toString i)).length ≤ 60
      rw [ofString_length]
      omega
  | .str w, h => by
    unfold nice at h
    unfold toP
    simp only [PyData.showable, PyData.leavesShort]
    exact ⟨trivial, h⟩
theorem niceL_show : ∀ ds : List Dat, niceL ds = true → PyData.showableAll (toPs ds) = true ∧ PyData.leavesShortAll 60 (toPs ds) = true
  | [], _ => ⟨rfl, rfl⟩
  | d :: ds, h => by
    unfold niceL at h
    rw [Bool.and_eq_true] at h
    unfold toPs
    simp only [PyData.showableAll, PyData.leavesShortAll]
    obtain ⟨a1, a2⟩ := nice_show d h.1
    obtain ⟨b1, b2⟩ := niceL_show ds h.2
    exact ⟨by rw [a1, b1]; rfl, by rw [a2, b2]; rfl⟩
end
theorem shw_of {d : Dat} (h : nice d = true) (hd : (toP d).depth ≤ 60) (hw : (toP d).weight ≤ 100000) : Shw d := by
  obtain ⟨h1, h2⟩ := nice_show d h
  refine ⟨nice_pln d h, h1, hd, ?_⟩
  have := PyData.shown_le 60 (by decide) (toP d) h2
  rw [sizeLine_eq]
  omega
end BV

end

section
set_option maxHeartbeats 4000000
/-! isinstance of an own class, subscripts of lists or tuples, list(range), gcd -/
namespace BV
open PySem PySem.Spec L2
theorem fnR_ofX {K : PySem.W.Frag} {P : Program} {wd : World} {mg : Str → Option Value} {base : Heap} {CX : CXT} {k : Nat} {f : Addr} {fd : FuncData} {ps : List Str} {sp : Sp} (F : FnOk P wd K mg base CX k f fd ps sp) (b : Binds K fd ps []) : FnR P wd K mg base CX k f sp :=
  (F.raw b .nil).imp fun vs H Q E h => by rw [List.append_nil]; exact h
theorem units2 {k : Nat} {A : Around} (r : Room k A) : A.units < cLine := by have := r.un; omega
theorem kReprD {X : Cx} (K : PySem.W.Frag) (h : X.K = K) (hG : X.A.guards = some []) (hu : X.A.units + 65 < cLine) : CallR X (.builtin "repr") (rReprD K) := by
  subst h
  exact call_reprD hG hu
theorem funS_mk {K : PySem.W.Frag} {x qual : Str} {st : Stmt} {f cc cda : Addr} {oc : Value} {od an : Option Addr} {osl : Array (Option Value)} {kV doc pm ct : Value} (l : K.lookup f = some ⟨oc, od, .func (PySem.W.fnX x qual (defArgs st) (defBody st) (defScope st) [("__class__", cc)] .none kV doc pm an (.ref cda) ct), osl⟩)
    (e : PySem.W.codeIn K (.ref cda) qual = true) : FunS K x qual st f cc cda (PySem.W.fnX x qual (defArgs st) (defBody st) (defScope st) [("__class__", cc)] .none kV doc pm an (.ref cda) ct) :=
  ⟨_, _, _, _, _, _, _, _, rfl, l, e⟩
theorem FunS.binds {K : PySem.W.Frag} {x qual : Str} {st : Stmt} {f cc cda : Addr} {fd : FuncData} {ps : List Str} (F : FunS K x qual st f cc cda fd)
    (h : ∀ (kV doc pm : Value) (an : Option Addr) (ct : Value) (us : List Value), us.length = ps.length → bindArgs (PySem.W.fnX x qual (defArgs st) (defBody st) (defScope st) [("__class__", cc)] .none kV doc pm an (.ref cda) ct) ⟨us, []⟩ = pure (ps.zip us)) : Binds K fd ps [] := by
  obtain ⟨oc, od, kV, doc, pm, an, ct, osl, rfl, lk, hcd⟩ := F.ex
  exact .all (h kV doc pm an ct)
/-- an own class whose instances isinstance knows -/
structure IsC (K : PySem.W.Frag) (C : Addr) : Prop where
  ha : PySem.W.findIn K (.ref C) "__class__" = some (some (.builtin "object.__class__"))
  hn : PySem.W.specialIn K (.builtin "object.__class__") "__get__" = some (some (.builtin "getset_descriptor.__get__"))
  htk : PySem.W.takesIn K (.builtin "object.__class__") = some true
  hm : PySem.W.mroIn K C (.type "object") = some true
section
variable {K : KB} {w w1 : Bool} {ρ : LS} {R : Dat → Prop} {t : TA} {ta tb : TE}
theorem oc_isiO {C : Addr} {fs : List (Str × Dat)} (cl : Cls K.F C) (ic : IsC K.F C) (k : R (.bl true)) : OpC K w1 w ρ (rIsi K.F) [.obj C fs, .oth (.ref C)] R := fun c σ H us o r Q q => by
  cases r with
  | cons r1 r2 =>
  cases r2 with
  | cons r2 r3 =>
  cases r3
  cases r2
  cases r1 with
  | @obj a _ dx xs _ ha rf =>
  exact ⟨_, .ref C, .ref C, .ref C, true, rfl, .own C, .base (.ins (vw_le a _ ha) cl ic.ha ic.hn ic.htk ic.hm), by unfold PySem.W.kitOne; simp, q _ H _ o .refl (.bl true) k⟩
theorem oc_isiN {x : Dat} {C : Addr} {b : Bool} (hb : bas x = true) (hk : PySem.W.kitOne K.F (.type (tyN x)) (.ref C) = some b) (k : R (.bl b)) : OpC K w1 w ρ (rIsi K.F) [x, .oth (.ref C)] R := fun c σ H us o r Q q => by
  cases r with
  | cons r1 r2 =>
  cases r2 with
  | cons r2 r3 =>
  cases r3
  cases r2
  exact ⟨_, .ref C, _, .ref C, b, rfl, .own C, TyX.mono vw_le (tyX r1 hb), hk, q _ H _ o .refl (.bl _) k⟩
theorem oc_repr_int {i : Int} (h : i.natAbs.log2 < 1920) (k : R (.str (sW (toString i)))) : OpC K w1 w ρ rRepr [.int i] R := fun c σ H us o r Q q => by
  cases r with
  | cons r1 r2 =>
  cases r2
  cases r1
  exact .inr (.inr (.inr ⟨i, rfl, h, q _ H _ o .refl (rep_str _) k⟩))
theorem oc_gcd {a b : Int} (k : R (.int ((Nat.gcd a.natAbs b.natAbs : Nat) : Int))) : OpC K w1 w ρ rGcd [.int a, .int b] R := fun c σ H us o r Q q => by
  cases r with
  | cons r1 r2 =>
  cases r2 with
  | cons r2 r3 =>
  cases r3
  cases r1
  cases r2
  exact ⟨a, b, rfl, q _ H _ o .refl (.int _) k⟩
/-! subscripts of what is a list or a tuple -/
def rIxQ (K : PySem.W.Frag) : R2 := fun x y H Q => rIxL K x y H Q ∨ rIxT K x y H Q
theorem kIxQ {X : Cx} (K : PySem.W.Frag) (h : X.K = K) : IxR X (rIxQ K) := by
  subst h
  intro value slice pins s σ H x y v u Q I rx ry hh hs
  rcases hh with hh | hh
  · exact ix_list value slice pins s σ H x y v u Q I rx ry hh hs
  · exact ix_tup value slice pins s σ H x y v u Q I rx ry hh hs
theorem g_ixQ (h : G K w ρ ta fun x => G K w ρ tb fun y => Op2 K w w ρ (rIxQ K.F) x y R) : G K w ρ (tOp (rIxQ K.F) ta tb) R := g_opS h
theorem o2_ixQL {ds : List Dat} {i : Int} {d : Dat} (h : atI ds i = some d) (k : R d) : Op2 K w w ρ (rIxQ K.F) (.lst ds) (.int i) R := fun c σ H u v o r1 r2 Q q => .inl (o2_ixL h k c σ H u v o r1 r2 Q q)
theorem o2_ixQT {ds : List Dat} {i : Int} {d : Dat} (h : atI ds i = some d) (k : R d) : Op2 K w w ρ (rIxQ K.F) (.tup ds) (.int i) R := fun c σ H u v o r1 r2 Q q => .inr (o2_ixT h k c σ H u v o r1 r2 Q q)
/-! list(range(..)) -/
theorem rgV_rep {F : PySem.W.Frag} {B : Hp} (a b : Int) : RepL F B (rgV a b) (rngI a (b - a).toNat) := by
  unfold rgV rngI
  generalize List.range (b - a).toNat = l
  induction l with
  | nil => exact .nil
  | cons i l ih => exact .cons (.int _) ih
def GR (K : KB) (w : Bool) (ρ : LS) (t : L2.St → Hp → (Int → Int → Hp → Prop) → Prop) (R : Int → Int → Prop) : Prop := ∀ c σ H, Ok K c ρ σ H → ∀ Q : Int → Int → Hp → Prop, (∀ a b H2, Ok K c ρ σ H2 → Le c ρ σ H H2 → R a b → Q a b H2) → t σ H Q
theorem gr_1 {RR : Int → Int → Prop} (h : G K w ρ ta fun x => ∃ n, x = .int n ∧ RR 0 n) : GR K w ρ (tRg1 ta) RR := fun c σ H o Q q =>
  h c σ H o _ fun u H1 x o1 l1 r1 ⟨n, e, k⟩ => by
    subst e
    cases r1
    exact ⟨n, rfl, q 0 n H1 o1 l1 k⟩
theorem gr_2 {RR : Int → Int → Prop} (h : G K w ρ ta fun x => ∃ i, x = .int i ∧ G K w ρ tb fun y => ∃ j, y = .int j ∧ RR i j) : GR K w ρ (tRg2 ta tb) RR := fun c σ H o Q q =>
  h c σ H o _ fun u H1 x o1 l1 r1 ⟨i, e, h1⟩ => by
    subst e
    cases r1
    refine h1 c σ H1 o1 _ fun v H2 y o2 l2 r2 ⟨j, e, k⟩ => ?_
    subst e
    cases r2
    exact ⟨i, j, rfl, rfl, q i j H2 o2 (l1.trans l2) k⟩
theorem gn_lrg {t : L2.St → Hp → (Int → Int → Hp → Prop) → Prop} {RS : Slot → Prop} (h : GR K false ρ t fun a b => RgOk a b ∧ RS (.own (rngI a (b - a).toNat))) : GN K ρ (tLstRg t) RS := fun c σ H o Q q =>
  h c σ H o _ fun a b H1 o1 l1 h1 => ⟨h1.1, fun p hp => by
    have hp0 : H p = none := by
      cases e : H p with
      | none => rfl
      | some ob =>
        have nv := o1.vis (w := false) hp
        rw [l1 p ob (fun z => nv (.inr (by rw [if_neg Bool.false_ne_true]; exact z.pr))) e] at hp
        cases hp
    exact q p _ (.own _) (o1.ex (Ex.new hp)) (l1.trans (Ex.new hp).le) hp0 ⟨p, _, rfl, upd_same, rgV_rep a b⟩ rfl h1.2⟩
theorem g_lrg {t : L2.St → Hp → (Int → Int → Hp → Prop) → Prop} (h : GR K false ρ t fun a b => RgOk a b ∧ R (.lst (rngI a (b - a).toNat))) : G K w ρ (tLstRg t) R :=
  g_new (gn_lrg fun c σ H o Q q => h c σ H o Q fun a b H2 o2 l ⟨k1, k2⟩ => q a b H2 o2 l ⟨k1, _, rfl, k2⟩)
end
end BV

end

section
set_option maxHeartbeats 4000000
/-! rows of numbers and of truths as data -/
namespace BV
open PySem PySem.Spec L2
abbrev natD (n : Nat) : Dat := .int (n : Int)
@[reducible] def natsD (l : List Nat) : Dat := .tup (l.map natD)
@[reducible] def blsD (T : List Bool) : Dat := .lst (T.map .bl)
theorem natD_map (l : List Nat) : l.map natD = (l.map fun n : Nat => (n : Int)).map Dat.int := by rw [List.map_map]; rfl
section
variable {K : KB} {w w1 : Bool} {ρ : LS} {R : Dat → Prop}
theorem inV_ints (z : Int) : ∀ ns : List Int, inV (.int z) (ns.map V.int) = ns.contains z
  | [] => rfl
  | n :: ns => by
    have ih := inV_ints z ns
    unfold inV at ih ⊢
    rw [List.map_cons, List.any_cons, ih, List.contains_cons]
    congr 1
    show (n == z) = (z == n)
    by_cases h : n = z
    · subst h; rfl
    · rw [beq_false_of_ne h, beq_false_of_ne (Ne.symm h)]
theorem all_flat : ∀ ns : List Int, (ns.map V.int).all flatV = true
  | [] => rfl
  | n :: ns => by rw [List.map_cons, List.all_cons, all_flat ns]; rfl
theorem contains_cast (k : Nat) : ∀ l : List Nat, (l.map fun n : Nat => (n : Int)).contains (k : Int) = l.contains k
  | [] => rfl
  | n :: l => by
    rw [List.map_cons, List.contains_cons, List.contains_cons, contains_cast k l]
    congr 1
    rw [Bool.eq_iff_iff]
    simp only [beq_iff_eq]
    exact Int.ofNat_inj
theorem o2_inZ {z : Int} {ns : List Int} (k : R (.bl (ns.contains z))) : Op2 K w1 w ρ (rIn K.F false) (.int z) (.tup (ns.map Dat.int)) R := fun c σ H u v o r1 r2 Q q => by
  cases r1
  cases r2 with
  | @tup b ys _ hb rg =>
  have e := rg.ints
  subst e
  refine ⟨b, _, rfl, .inr (ex_t vw_le hb), rfl, all_flat ns, ?_⟩
  rw [if_neg Bool.false_ne_true, inV_ints]
  exact q _ H _ o .refl (.bl _) k
theorem o2_inN {k : Nat} {l : List Nat} (h : R (.bl (l.contains k))) : Op2 K w1 w ρ (rIn K.F false) (.int (k : Int)) (.tup (l.map natD)) R := by
  rw [natD_map]
  exact o2_inZ (by rw [contains_cast]; exact h)
end
theorem toPs_nats (l : List Nat) : toPs (l.map natD) = l.map fun n : Nat => PyData.int (n : Int) := toPs_map _ _
theorem toPs_bls (T : List Bool) : toPs (T.map Dat.bl) = T.map PyData.bool := toPs_map _ _
theorem plnL_nats : ∀ l : List Nat, plnL (l.map natD) = true
  | [] => rfl
  | n :: l => by rw [List.map_cons]; unfold plnL; rw [plnL_nats l]; rfl
theorem plnL_bls : ∀ l : List Bool, plnL (l.map Dat.bl) = true
  | [] => rfl
  | n :: l => by rw [List.map_cons]; unfold plnL; rw [plnL_bls l]; rfl
theorem can_nats : ∀ l : List Nat, PyData.canLayAll0 (l.map fun n : Nat => PyData.int (n : Int)) = true
  | [] => rfl
  | n :: l => by rw [List.map_cons]; unfold PyData.canLayAll0; rw [can_nats l]; rfl
theorem can_bls : ∀ l : List Bool, PyData.canLayAll0 (l.map PyData.bool) = true
  | [] => rfl
  | n :: l => by rw [List.map_cons]; unfold PyData.canLayAll0; rw [can_bls l]; rfl
theorem dep_nats : ∀ l : List Nat, PyData.depthAll (l.map fun n : Nat => PyData.int (n : Int)) = 0
  | [] => rfl
  | n :: l => by rw [List.map_cons]; unfold PyData.depthAll; rw [dep_nats l]; rfl
theorem dep_bls : ∀ l : List Bool, PyData.depthAll (l.map PyData.bool) = 0
  | [] => rfl
  | n :: l => by rw [List.map_cons]; unfold PyData.depthAll; rw [dep_bls l]; rfl
theorem eqv_nats : ∀ a b : List Nat, PyData.eqvAll (a.map fun n : Nat => PyData.int (n : Int)) (b.map fun n : Nat => PyData.int (n : Int)) = decide (a = b)
  | [], [] => by simp [PyData.eqvAll]
  | [], y :: b => by simp [PyData.eqvAll]
  | x :: a, [] => by simp [PyData.eqvAll]
  | x :: a, y :: b => by
    rw [List.map_cons, List.map_cons]
    unfold PyData.eqvAll PyData.eqv
    rw [eqv_nats a b, Bool.eq_iff_iff]
    simp only [Bool.and_eq_true, beq_iff_eq, decide_eq_true_eq, List.cons.injEq]
    exact and_congr_left fun _ => Int.ofNat_inj
theorem eqv_bls : ∀ a b : List Bool, PyData.eqvAll (a.map PyData.bool) (b.map PyData.bool) = decide (a = b)
  | [], [] => by simp [PyData.eqvAll]
  | [], y :: b => by simp [PyData.eqvAll]
  | x :: a, [] => by simp [PyData.eqvAll]
  | x :: a, y :: b => by
    rw [List.map_cons, List.map_cons]
    unfold PyData.eqvAll PyData.eqv
    rw [eqv_bls a b, Bool.eq_iff_iff]
    simp
theorem shp_bls (T : List Bool) : shp (blsD T) = true := by
  unfold shp SeqAt.shaped
  have h1 : pln (blsD T) = true := by unfold blsD pln; exact plnL_bls T
  have h2 : toP (blsD T) = .list (T.map PyData.bool) := by unfold blsD toP; rw [toPs_bls]
  rw [h1, h2]
  unfold PyData.canLay0 PyData.depth
  rw [can_bls, dep_bls]
  rfl
theorem deq_bls (a b : List Bool) : deq (blsD a) (blsD b) = decide (a = b) := by
  unfold deq
  have h2 : ∀ T, toP (blsD T) = .list (T.map PyData.bool) := fun T => by unfold blsD toP; rw [toPs_bls]
  rw [h2, h2]
  unfold PyData.eqv
  exact eqv_bls a b
/-- two numbers and two rows -/
abbrev Frm := Nat × Nat × List Nat × List Nat
@[reducible] def formD (f : Frm) : Dat := .tup [natD f.1, natD f.2.1, natsD f.2.2.1, natsD f.2.2.2]
theorem toP_form (f : Frm) : toP (formD f) = .tuple [.int (f.1 : Int), .int (f.2.1 : Int), .tuple (f.2.2.1.map fun n : Nat => PyData.int (n : Int)), .tuple (f.2.2.2.map fun n : Nat => PyData.int (n : Int))] := by
  unfold formD natsD
  simp only [toP, toPs, toPs_nats]
theorem shp_form (f : Frm) : shp (formD f) = true := by
  unfold shp SeqAt.shaped
  have h1 : pln (formD f) = true := by
    unfold formD natsD
    simp only [pln, plnL, plnL_nats, Bool.and_self]
  rw [h1, toP_form]
  simp only [PyData.canLay0, PyData.canLayAll0, PyData.depth, PyData.depthAll, can_nats, dep_nats]
  decide
theorem deq_form (f g : Frm) : deq (formD f) (formD g) = decide (f = g) := by
  unfold deq
  rw [toP_form, toP_form]
  obtain ⟨a, b, c, d⟩ := f
  obtain ⟨a', b', c', d'⟩ := g
  simp only [PyData.eqv, PyData.eqvAll, eqv_nats]
  rw [Bool.eq_iff_iff]
  simp only [Bool.and_eq_true, beq_iff_eq, decide_eq_true_eq, Prod.mk.injEq, Bool.and_true, and_true]
  have e1 : ((a : Int) = (a' : Int)) ↔ a = a' := Int.ofNat_inj
  have e2 : ((b : Int) = (b' : Int)) ↔ b = b' := Int.ofNat_inj
  rw [e1, e2]
theorem niceL_nats {l : List Nat} (h : ∀ n ∈ l, n < 10 ^ 50) : niceL (l.map natD) = true := by
  induction l with
  | nil => rfl
  | cons n l ih =>
    rw [List.map_cons]
    unfold niceL
    rw [ih fun m hm => h m (List.mem_cons_of_mem _ hm)]
    have := h n List.mem_cons_self
    simp only [nice, Bool.and_true, decide_eq_true_eq]
    simpa using this
theorem weight_nats {l : List Nat} {B : Nat} (hb : 0 < B) (h : ∀ n ∈ l, n < 2 ^ B) : PyData.weightAll (l.map fun n : Nat => PyData.int (n : Int)) ≤ (B + 1) * l.length := by
  induction l with
  | nil => exact Nat.zero_le _
  | cons n l ih =>
    rw [List.map_cons]
    unfold PyData.weightAll PyData.weight
    have h1 := ih fun m hm => h m (List.mem_cons_of_mem _ hm)
    have h2 := h n List.mem_cons_self
    rw [List.length_cons, Nat.mul_succ]
    have h3 : (if ((n : Int) == 0) = true then 0 else (n : Int).natAbs.log2 + 1) ≤ B := by
      split
      · exact Nat.zero_le _
      · rename_i hz
        have hn : n ≠ 0 := fun z => hz (by rw [z]; rfl)
        have := (Nat.log2_lt hn).mpr h2
        show (n : Int).natAbs.log2 + 1 ≤ B
        rw [Int.natAbs_natCast]
        omega
    omega
theorem shw_form {f : Frm} (h1 : f.1 < 65536) (h2 : f.2.1 < 65536) (h3 : ∀ n ∈ f.2.2.1, n < 65536) (h4 : ∀ n ∈ f.2.2.2, n < 65536) (h5 : f.2.2.1.length ≤ 2500) (h6 : f.2.2.2.length ≤ 2500) : Shw (formD f) := by
  have big : ∀ n : Nat, n < 65536 → n < 10 ^ 50 := fun n hn => Nat.lt_of_lt_of_le hn (by decide)
  refine shw_of ?_ ?_ ?_
  · unfold formD natsD
    simp only [nice, niceL, niceL_nats fun n hn => big n (h3 n hn), niceL_nats fun n hn => big n (h4 n hn), Bool.and_true, Bool.and_eq_true, decide_eq_true_eq]
    exact ⟨by simpa using big _ h1, by simpa using big _ h2⟩
  · rw [toP_form]
    simp only [PyData.depth, PyData.depthAll, dep_nats]
    decide
  · rw [toP_form]
    have a := weight_nats (B := 16) (by decide) (fun n hn => h3 n hn)
    have b := weight_nats (B := 16) (by decide) (fun n hn => h4 n hn)
    have c : ∀ n : Nat, n < 65536 → (PyData.int (n : Int)).weight ≤ 16 := fun n hn => by
      unfold PyData.weight
      split
      · exact Nat.zero_le _
      · rename_i hz
        have hn0 : n ≠ 0 := fun z => hz (by rw [z]; rfl)
        have := (Nat.log2_lt hn0).mpr (show n < 2 ^ 16 from hn)
        show (n : Int).natAbs.log2 + 1 ≤ 16
        rw [Int.natAbs_natCast]
        omega
    have d := c _ h1
    have e := c _ h2
    have s : ∀ xs, PyData.weight (.tuple xs) = PyData.weightAll xs := fun xs => by simp only [PyData.weight]
    rw [s]
    simp only [PyData.weightAll, s]
    omega
end BV

end

section
set_option maxHeartbeats 4000000
/-! a, b = x, y with plain local names -/
namespace BV
open PySem PySem.Spec L2
theorem run_par {K : KB} {ρ : LS} {t : TA} {N : LS → Prop} {R : Ret → LS → Prop} {B C : LS → Prop} {i j : Nat} (h : GA K false ρ t fun ds => ∃ x y, ds = [x, y] ∧ N ((ρ.set i (.d x)).set j (.d y))) : Run K ρ (tPar i j t) N R B C := fun c D is σ H o =>
  h c σ H o _ fun vs H1 ds o1 l1 r1 ⟨x, y, e, n⟩ => by
    subst e
    cases r1 with
    | @cons u _ _ _ ru r2 =>
    cases r2 with
    | @cons v _ _ _ rv r3 =>
    cases r3
    refine ⟨u, v, rfl, is.nx _ _ _ ?_ n⟩
    have o2 := o1.setD (i := i) (s := .d x) (v := some u) rfl ⟨u, rfl, ru⟩
    refine o2.setD (i := j) (s := .d y) (v := some v) rfl ⟨v, rfl, rv.mono (ex_setD (s := .d x) rfl)⟩
section
variable {X : Cx} {T id : String} {name : Str} {r : V → List V → Hp → VK → Prop} {o e : Expr} {es : List Expr} {to : L2.TE} {t : TA} {cpos apos : Pos}
/-- o.m(e, ..), its reading without the place's own K -/
theorem pe_bmK (K : PySem.W.Frag) (h : X.K = K) (pa : PlainAttrs T) (slot : PySem.Slot T name id) (hty : typeOf (.builtin id) = pure (.type "method_descriptor")) (hm : MtR X id r) (ho : PE X o to) (ha : PA X (e :: es) t)
    (hbase : attributeBase o name X.env (eval o X.env) = eval o X.env := by rfl)
    (hfew : ((backTo cpos (starEach (e :: es) X.env)).all (fun x => !x.1) && (backToKw cpos (keywordEach [] X.env)).all (fun x => x.1.isSome)
      && decide ((e :: es).length + ([] : List Keyword).length + (if ([] : List Keyword).isEmpty then 0 else 1) < 30)) = true := by rfl)
    (hline : (apos.endLine == cpos.line) = true := by rfl) (hs : starEach (e :: es) X.env = (false, eval e X.env) :: starEach es X.env := by rfl) (hplain : (backTo cpos (starEach es X.env)).any (·.1) = false := by rfl) :
    PE X (.Call (.Attribute o name apos) (e :: es) [] cpos) (tBM K T r to t) := h ▸ pe_bm pa slot hty hm ho ha hbase hfew hline hs hplain
end
end BV

end

section
set_option maxHeartbeats 4000000
/-! constructors and methods that may let an exception out; divmod, str of an int -/
namespace BV
open PySem PySem.Spec L2
open PyProof.Rows (envOfC)
/-- an __init__ that may let an exception out -/
def spJ (K : PySem.W.Frag) (C0 : Addr) (S : List Dat → (List (Str × Dat) → Prop) → RX → Prop) : Sp := fun vs H Q E => ∃ (P : Addr → Prop) (x dx : Addr) (us : List V) (ds : List Dat) (R : List (Str × Dat) → Prop) (RE : RX), vs = .ref x :: us ∧ H x = some (.ins C0 dx []) ∧ ¬ P x ∧ (∀ a, P a → ∃ o, H a = some o) ∧
  RepL K (hid (fun b => P b ∨ b = x) H) us ds ∧ S ds R RE ∧ (∀ H' dx' xs fs, (∀ b o, b ≠ x → H b = some o → H' b = some o) → H' x = some (.ins C0 dx' xs) → RepF K (hid (fun b => P b ∨ b = x) H') xs fs → R fs → Q .non H') ∧
  ∀ C dx H' xs fs, (∀ b o, b ≠ x → H b = some o → H' b = some o) → hid P H' dx = some (.xd xs) → RepF K (hid P H') xs fs → RE C fs → E (.ref C) (some dx) H'
section
variable {X : Cx} {CX : CXT} {k : Nat} {f C : Addr} {fd : FuncData} {ps : List Str} {sp : Sp} {x m : Str} {p pos apos : Pos} {e o : Expr} {es : List Expr} {t : TA} {ta : TE} {E : L2.St → XK}
theorem run_makeS {pins : List (Addr × Obj)} {σ : L2.St} {H : Hp} {s : Shared} {Q : VK} {us : List Value} {vs : List V} (M : Mk X.K C f) (F : FnOk X.prog X.w X.K X.mg X.base CX k f fd ps sp) (hr : Room (k + 1) X.A) (hb : Binds X.K fd ps [])
    (hx : PassesAt CX X σ (E σ)) (I : Inv X pins σ H s) (r : Vals vs us)
    (h : ∀ x dx, H x = none → H dx = none → dx ≠ x → sp (.ref x :: vs) (upd (upd H dx (.own x)) x (.ins C dx [])) (fun v H2 => v = .non ∧ Q (.ref x) H2) (E σ)) :
    wpAny (model X.prog X.w) X.A (call (.ref C) us) (EP X pins σ Q) X.xe s := by
  have hq := h (s.heap.objs.size + 1) s.heap.objs.size (I.hok.fresh (Nat.le_succ _)) (I.hok.fresh (Nat.le_refl _)) (Nat.ne_of_lt (Nat.lt_succ_self _))
  have I2 := Inv.made (C := C) I
  have r2 : Vals (V.ref (s.heap.objs.size + 1) :: vs) (Value.ref (s.heap.objs.size + 1) :: us) := .cons rfl r
  have hl : (Value.ref (s.heap.objs.size + 1) :: us).length = ps.length := by
    have e := r2.length
    rw [F.len _ _ _ _ hq] at e
    exact e.symm
  have hbb := hb _ (Value.ref (s.heap.objs.size + 1) :: us) I2.kIn (by rw [List.append_nil]; exact hl)
  rw [List.append_nil] at hbb
  refine wpAny_call (make_map (f := f) I.kIn M.makes M.init (beq_iff_eq.mp M.fn) (codeAny_mono (F.run _ X.stack _ _ ⟨Value.ref (s.heap.objs.size + 1) :: us, []⟩ (Value.ref (s.heap.objs.size + 1) :: us) _ _ (E σ) (hr.make C us [])
    (I2.env0.make C us []) hbb r2 hq) fun r s' hq' => ?_))
  cases r with
  | error e => exact hx pins _ _ e s' I2 hq'
  | ok fl =>
    cases fl with
    | ret u =>
      obtain ⟨v, H', I3, rv, ev, q3⟩ := I2.after hq'
      subst ev
      exact ⟨rv, ⟨V.ref (s.heap.objs.size + 1), H', I3, rfl, q3⟩⟩
    | next => exact False.elim hq'
    | brk => exact False.elim hq'
    | cont => exact False.elim hq'
theorem pe_makeS (M : Mk X.K C f) (F : FnOk X.prog X.w X.K X.mg X.base CX k f fd ps sp) (hr : Room (k + 1) X.A) (hg : Gl X x) (hm : X.mg x = some (.ref C)) (hb : Binds X.K fd ps []) (hx : ∀ σ, PassesAt CX X σ (E σ))
    (ha : PA X (e :: es) t) (hdb : (x == ("__debug__" : Str)) = false := by decide) (he : starEach (e :: es) X.env = (false, eval e X.env) :: starEach es X.env := by rfl) (hpl : (backTo pos (starEach es X.env)).any (·.1) = false := by rfl) :
    PE X (.Call (.Name x p) (e :: es) [] pos) (tMakeS C sp E t) := by
  refine ⟨fun pins s σ H Q I h => ?_⟩
  refine wpAny_Call_Name_kw (ld_glob I hg hm ?_ hdb)
  refine PySem.W.callWith_K (h₀ := X.base) I.ok.mod.kin M.kp (thn (ha.run pos pins s σ H _ I h) fun us s1 ⟨vs, H1, I1, r, q⟩ => ⟨I1.kIn, ?_⟩) he hpl
  exact run_makeS M F hr hb (hx σ) I1 r q
theorem run_fnRW {pins : List (Addr × Obj)} {σ : L2.St} {H : Hp} {s : Shared} {Q : VK} {us : List Value} {vs : List V} (F : FnR X.prog X.w X.K X.mg X.base CX k f sp) (hr : Room k X.A) (hx : PassesAt CX X σ (E σ)) (I : Inv X pins σ H s) (r : Vals vs us) (h : sp vs H Q (E σ)) :
    wpAny (model X.prog X.w) X.A (call (.ref f) us) (EP X pins σ Q) X.xe s := wpAny_call (run_fnRS F hr hx I r h)
def tMth (C : Addr) (m : Str) (sp : Sp) (E : L2.St → XK) (ta : TE) (t : TA) : TE := fun σ H Q => ta σ H fun x H1 => ∃ a dx fs, x = .ref a ∧ H1 a = some (.ins C dx fs) ∧ fs.lookup m = none ∧ t σ H1 fun vs H2 => sp (x :: vs) H2 Q (E σ)
/-- o.m(e, ..) and o.m() -/
theorem pe_mthS {pl : Sem Bool} (he : PE X o ta) (c : Cls X.K C) (hm : Meth X.K C m f) (F : FnR X.prog X.w X.K X.mg X.base CX k f sp) (hr : Room k X.A) (hx : ∀ σ, PassesAt CX X σ (E σ)) (ha : PA X (e :: es) t)
    (hst : starEach (e :: es) X.env = (false, eval e X.env) :: starEach es X.env := by rfl) (hpl : (backTo pos (starEach es X.env)).any (·.1) = false := by rfl)
    (ht : eval (.Call (.Attribute o m apos) (e :: es) [] pos) X.env = (do
      let ov ← eval o X.env
      standAt apos.atName
      let (f, first) ← holding [ov] (getMethod ov m pl)
      callWith pos f first (backTo pos (starEach (e :: es) X.env)) (backToKw pos (keywordEach [] X.env))) := by rfl) :
    PE X (.Call (.Attribute o m apos) (e :: es) [] pos) (tMth C m sp E ta t) := by
  refine ⟨fun pins s σ H Q I h => ?_⟩
  refine PySem.W.methodCall_KW (pl := pl) (thn (he.run pins s σ H _ I h) fun u s1 ⟨x, H1, I1, rx, a, dx, fs, ex, ea, l, q⟩ => ?_) ht
  subst ex
  obtain rfl : u = Value.ref a := rx
  refine getmeth_ok I1 ea c hm l ?_
  refine PySem.W.callWith_K (first := [.ref a]) (h₀ := X.base) I.ok.mod.kin hm.kp (thn (ha.run pos pins s1 σ H1 _ I1 q) fun us s2 ⟨vs, H2, I2, r, q2⟩ => ⟨I2.kIn, ?_⟩) hst hpl
  exact run_fnRW (us := .ref a :: us) (vs := .ref a :: vs) F hr (hx σ) I2 (.cons rfl r) q2
theorem pe_mthS0 {pl : Sem Bool} (he : PE X o ta) (c : Cls X.K C) (hm : Meth X.K C m f) (F : FnR X.prog X.w X.K X.mg X.base CX k f sp) (hr : Room k X.A) (hx : ∀ σ, PassesAt CX X σ (E σ))
    (ht : eval (.Call (.Attribute o m apos) [] [] pos) X.env = (do
      let ov ← eval o X.env
      standAt apos.atName
      let (f, first) ← holding [ov] (getMethod ov m pl)
      callWith pos f first (backTo pos (starEach [] X.env)) (backToKw pos (keywordEach [] X.env))) := by rfl) :
    PE X (.Call (.Attribute o m apos) [] [] pos) (tMth C m sp E ta tNil) := by
  refine ⟨fun pins s σ H Q I h => ?_⟩
  refine PySem.W.methodCall_KW (pl := pl) (thn (he.run pins s σ H _ I h) fun u s1 ⟨x, H1, I1, rx, a, dx, fs, ex, ea, l, q⟩ => ?_) ht
  subst ex
  obtain rfl : u = Value.ref a := rx
  refine getmeth_ok I1 ea c hm l ?_
  exact PySem.W.callWith_K0 (first := [.ref a]) I1.kIn hm.kp (run_fnRW (us := [.ref a]) (vs := [.ref a]) F hr (hx σ) I1 (.cons rfl .nil) q)
end
def rDivmod : List V → Hp → VK → Prop := fun xs H Q => ∃ i j, xs = [.int i, .int j] ∧ CDivP i j ∧ ∀ p, H p = none → Q (.ref p) (upd H p (.tup [.int (i / j), .int (i % j)]))
theorem call_divmod_ {X : Cx} : CallR X (.builtin "divmod") rDivmod := call_divmodW
def rStrI : List V → Hp → VK → Prop := fun xs H Q => ∃ i, xs = [.int i] ∧ i.natAbs.log2 < 1920 ∧ Q (.str (toString i)) H
theorem call_strI {X : Cx} : CallR X (.type "str") rStrI := call_str_int
/-! ### by data -/
section
variable {K : KB} {w w1 : Bool} {ρ : LS} {t : TA} {ta : TE} {R : Dat → Prop} {E : L2.St → XK} {C : Addr} {m : Str}
theorem g_mthF {S : List Dat → (Dat → Prop) → Prop} (h : G K w ρ ta fun x => ∃ fs, x = .obj C fs ∧ fs.lookup m = none ∧ GA K w ρ t fun ds => S (.obj C fs :: ds) R) : G K w ρ (tMth C m (spF K.F S) E ta t) R := fun c σ H o Q q =>
  h c σ H o _ fun u H1 x o1 l1 r1 ⟨fs, ex, hl, k⟩ => by
    subst ex
    cases r1 with
    | @obj a _ dx xs _ ha rf =>
    refine ⟨a, dx, xs, rfl, vw_le a _ ha, rf.lookupN hl, ?_⟩
    exact k c σ H1 o1 _ fun vs H2 ds o2 l2 r2 hS => ⟨_, .obj C fs :: ds, R, o2.trk (w := w), .cons ((Rep.obj ha rf).mono l2.vw) r2, hS, fun v H' d e rv rd => q v H' d (o2.ex e) ((l1.trans l2).trans e.le) rv rd⟩
theorem g_mthX {S : List Dat → (Dat → Prop) → RX → Prop} (h : G K false ρ ta fun x => ∃ fs, x = .obj C fs ∧ fs.lookup m = none ∧ GA K false ρ t fun ds => ∃ RE, S (.obj C fs :: ds) R RE ∧ ∀ C fs, RE C fs → K.RE C fs ρ) : G K false ρ (tMth C m (spX K.F S) (WE K.E) ta t) R := fun c σ H o Q q =>
  h c σ H o _ fun u H1 x o1 l1 r1 ⟨fs, ex, hl, k⟩ => by
    subst ex
    cases r1 with
    | @obj a _ dx xs _ ha rf =>
    refine ⟨a, dx, xs, rfl, vw_le a _ ha, rf.lookupN hl, ?_⟩
    exact k c σ H1 o1 _ fun vs H2 ds o2 l2 r2 ⟨RE, hS, kx⟩ => ⟨_, .obj C fs :: ds, R, RE, o2.trk (w := false), .cons ((Rep.obj ha rf).mono l2.vw) r2, hS, fun v H' d e rv rd => q v H' d (o2.ex e) ((l1.trans l2).trans e.le) rv rd, fun C' dx' H' xs' fs' e hx rf' re => XOk.call o2 e hx rf' (kx C' fs' re)⟩
theorem g_makeX {S : List Dat → (List (Str × Dat) → Prop) → RX → Prop} (h : GA K false ρ t fun ds => ∃ RE, S ds (fun fs => R (.obj C fs)) RE ∧ ∀ C fs, RE C fs → K.RE C fs ρ) : G K false ρ (tMakeS C (spJ K.F C S) (WE K.E) t) R := fun c σ H o Q q =>
  h c σ H o _ fun vs H1 ds o1 l1 r1 ⟨RE, k, kx⟩ => fun x dx hx hdx ne => by
    have e1 : Ex H1 (upd (upd H1 dx (.own x)) x (.ins C dx [])) := (Ex.new hdx).trans (Ex.new (by rw [upd_ne ne.symm]; exact hx))
    have o2 := o1.ex e1
    refine ⟨fun b => c.P b ∨ (if false = true then Fr ρ σ b else Pr ρ σ b), x, dx, vs, ds, _, RE, rfl, upd_same, o1.vis (w := false) hx, o2.trk, r1.mono (hid_ex fun b ob hb e => ⟨fun z => ?_, e1 b ob e⟩), k, fun H' dx' xs fs hk hx' rf rr => ⟨rfl, ?_⟩, fun C' dx' H' xs fs hk hx' rf re => ?_⟩
    · rcases z with z | z
      · exact hb z
      · rw [z, hx] at e; cases e
    · have e3 : Ex H1 H' := fun b ob e => hk b ob (fun z => by rw [z, hx] at e; cases e) (e1 b ob e)
      exact q _ H' _ (o1.ex e3) (l1.trans e3.le) (.obj (hid_some.mpr ⟨o1.vis (w := false) hx, hx'⟩) (rf.mono (hid_ex fun b ob hb e => ⟨fun z => hb (.inl z), e⟩))) rr
    · have e3 : Ex H1 H' := fun b ob e => hk b ob (fun z => by rw [z, hx] at e; cases e) (e1 b ob e)
      exact XOk.call o1 e3 hx' rf (kx C' fs re)
theorem oc_strI {i : Int} (h : i.natAbs.log2 < 1920) (k : R (.str (sW (toString i)))) : OpC K w1 w ρ rStrI [.int i] R := fun c σ H us o r Q q => by
  cases r with
  | cons r1 r2 =>
  cases r2
  cases r1
  exact ⟨i, rfl, h, q _ H _ o .refl (rep_str _) k⟩
theorem oc_divmod {i j : Int} (h : CDivP i j) (k : R (.tup [.int (i / j), .int (i % j)])) : OpC K w1 w ρ rDivmod [.int i, .int j] R := fun c σ H us o r Q q => by
  cases r with
  | cons r1 r2 =>
  cases r2 with
  | cons r2 r3 =>
  cases r3
  cases r1
  cases r2
  refine ⟨i, j, rfl, h, fun p hp => ?_⟩
  exact q _ _ _ (o.ex (Ex.new hp)) (Ex.new hp).le (.tup (.inl (.inl (o.vw_new hp))) (.cons (.int _) (.cons (.int _) .nil))) k
end
section
variable {K : PySem.W.Frag} {P : Program} {wd : World} {mg : Str → Option Value} {base : Heap} {x qual : Str} {st : Stmt} {f : Addr} {fd : FuncData} {N ps : List Str} {k : Nat}
theorem okJ {C : Addr} {S : List Dat → (List (Str × Dat) → Prop) → RX → Prop} (F : Fun K x qual st f fd) (sc : FnScope N ps (defScope st)) (len : ∀ ds R RE, S ds R RE → ds.length + 1 = ps.length)
    (hb : ∀ (cdv : Value) (A : Around) (outer : List Env) (s : Shared) (H : Hp) (E : XK), Room k (A.deeper (envOfC qual (defScope st) s.heap.objs.size f cdv)) →
      ∃ t, PSs (cxOf (L2.CX P wd) P wd K mg base N qual (defScope st) f cdv A outer s H E) (defBody st) t ∧ ∀ (s : Addr) ds R RE, S ds R RE → Run ⟨K, fun cls d _ H => E cls d H, fun C fs _ => RE C fs⟩ (.ins s C [] :: startS N.tail ds) t (fun ρ => ∃ fs, ρ[0]? = some (.ins s C fs) ∧ R fs) (fun r ρ => False) (fun _ => False) fun _ => False) :
    FnOk P wd K mg base (L2.CX P wd) (k + 1) f fd ps (spJ K C S) := by
  refine F.okX sc (fun vs H Q E h => ?_) fun cdv A outer s H vs Q E hr h => ?_
  · obtain ⟨P, s, dx, us, ds, R, RE, rfl, _, _, _, r, hS, _⟩ := h
    rw [List.length_cons, r.length]
    exact len ds R RE hS
  · obtain ⟨Pp, s0, dx, us, ds, R, RE, rfl, hs0, np0, hp, r, hS, kq, kx⟩ := h
    obtain ⟨t, ht, run⟩ := hb cdv A outer s H E hr
    refine ⟨t, ht, ?_⟩
    have hl := len ds R RE hS
    have hN : N ≠ [] := fun z => by
      have e := sc.pre
      rw [z] at e
      have : ps.length = 0 := by rw [← e]; simp
      omega
    obtain ⟨n0, Nt, rfl⟩ := List.exists_cons_of_ne_nil hN
    have es : L2.start (n0 :: Nt) (V.ref s0 :: us) = some (.ref s0) :: L2.start Nt us := by
      unfold L2.start
      simp
    rw [es]
    have get : ∀ {i : Nat} {s' : Slot} {v' : Option V}, (Slot.ins s0 C [] :: startS Nt ds)[i]? = some s' → (some (V.ref s0) :: L2.start Nt us)[i]? = some v' → (i = 0 ∧ s' = .ins s0 C [] ∧ v' = some (.ref s0)) ∨ s' = .no ∨ ∃ x u, s' = .d x ∧ v' = some u ∧ Rep K (hid (fun b => Pp b ∨ b = s0) H) u x := fun {i s' v'} h1 h2 => by
      cases i with
      | zero => simp at h1 h2; exact .inl ⟨rfl, h1.symm, h2.symm⟩
      | succ i => exact .inr (start_get r (by simpa using h1) (by simpa using h2))
    have prs : ∀ a, Pr (Slot.ins s0 C [] :: startS Nt ds) (some (.ref s0) :: L2.start Nt us) a → a = s0 := fun a ⟨i, s', v', h1, h2, h3⟩ => by
      rcases get h1 h2 with ⟨_, e, e2⟩ | e | ⟨y, u, e, _⟩
      · rw [e] at h3; cases h3; rfl
      · rw [e] at h3; cases h3
      · rw [e] at h3; cases h3
    have o : Ok ⟨K, fun cls d _ H => E cls d H, fun C fs _ => RE C fs⟩ ⟨Pp, fun b => b = s0, H⟩ (Slot.ins s0 C [] :: startS Nt ds) (some (.ref s0) :: L2.start Nt us) H := by
      refine ⟨⟨by rw [List.length_cons, List.length_cons, start_len r.length], fun i s' v' h1 h2 => ?_, fun i j s1 v1 s2 v2 a g1 g2 g3 g4 g5 g6 => ?_, fun a h => by rw [prs a h]; exact np0, fun _ _ _ h => h, fun a h => .inl (prs a h), hp⟩, fun C dx ρ' σ' H' xs fs o' hx rf re => ?_⟩
      · rcases get h1 h2 with ⟨_, e, e2⟩ | e | ⟨y, u, e, e2, ru⟩
        · rw [e, e2]; exact ⟨dx, [], rfl, hs0, .nil⟩
        · rw [e]; trivial
        · rw [e, e2]
          refine ⟨u, rfl, ru.mono (hid_ex fun b ob hb e => ⟨fun z => ?_, e⟩)⟩
          rcases z with z | z
          · exact hb (.inl z)
          · rw [if_neg Bool.false_ne_true] at z; exact hb (.inr (prs b z))
      · have z1 : i = 0 := by
          rcases get g1 g2 with ⟨e, _⟩ | e | ⟨y, u, e, _⟩
          · exact e
          · rw [e] at g3; cases g3
          · rw [e] at g3; cases g3
        have z2 : j = 0 := by
          rcases get g4 g5 with ⟨e, _⟩ | e | ⟨y, u, e, _⟩
          · exact e
          · rw [e] at g6; cases g6
          · rw [e] at g6; cases g6
        rw [z1, z2]
      · have le : Ex (sv ⟨Pp, fun b => b = s0, H⟩ ρ' σ' H') (hid Pp H') := hid_ex fun b ob hb e => ⟨fun z => hb (.inl z), e⟩
        exact kx C dx H' xs fs (fun b ob nb e => o'.fr b ob nb e) (le dx _ hx) (rf.mono le) re
    refine run s0 ds R RE hS _ _ ⟨fun ρ' σ' H' o' ⟨fs, h0, rr⟩ => ?_, fun ρ' σ' H' v d o' rv rd => rd.elim, fun ρ' σ' H' a s' o' hx rs hpa rd => rd.elim, fun _ _ _ _ z => z.elim, fun _ _ _ _ z => z.elim⟩ _ _ o
    obtain ⟨v0, e0, dx', xs, rfl, hx, rf⟩ := o'.get h0
    have hF : Pr ρ' σ' s0 := ⟨0, _, _, h0, e0, rfl⟩
    refine kq H' dx' xs fs (fun b ob nb e => o'.fr b ob nb e) hx (rf.mono (hid_ex fun b ob hb e => ⟨fun z => ?_, e⟩)) rr
    rcases z with z | z
    · exact hb (.inl z)
    · exact hb (.inr (by rw [if_neg Bool.false_ne_true, z]; exact hF))
end
theorem run_dropS {K : KB} {ρ : LS} {t : TA} {sp : Sp} {E : L2.St → XK} {N : LS → Prop} {R : Ret → LS → Prop} {B C : LS → Prop} (h : G K false ρ (tCallS sp E t) fun _ => N ρ) : Run K ρ (tDrop (tCallS sp E t)) N R B C := fun c D is σ H o =>
  h c σ H o _ fun v H2 d o2 l r k => is.nx ρ σ H2 o2 k
theorem c_le1 {α : Type} {x : α} {xs : List α} {A B : Prop} (h : A) : ((!(x :: xs).isEmpty) = true → A) ∧ ((!(x :: xs).isEmpty) = false → B) := ⟨fun _ => h, fun z => (nomatch z)⟩
theorem c_le0 {α : Type} {A B : Prop} (h : B) : ((!([] : List α).isEmpty) = true → A) ∧ ((!([] : List α).isEmpty) = false → B) := ⟨fun z => (nomatch z), fun _ => h⟩
theorem c_ne1 {α : Type} {x : α} {xs : List α} {A B : Prop} (h : B) : ((!!(x :: xs).isEmpty) = true → A) ∧ ((!!(x :: xs).isEmpty) = false → B) := ⟨fun z => (nomatch z), fun _ => h⟩
theorem c_ne0 {α : Type} {A B : Prop} (h : A) : ((!!([] : List α).isEmpty) = true → A) ∧ ((!!([] : List α).isEmpty) = false → B) := ⟨fun _ => h, fun z => (nomatch z)⟩
end BV

end

section
set_option maxHeartbeats 4000000
/-! isinstance of tuple or list; tuples of texts that stand in the written part; the last item -/
namespace BV
open PySem PySem.Spec L2
def sqB : Dat → Bool
  | .tup _ => true
  | .lst _ => true
  | .scr _ => true
  | _ => false
theorem kitAny_sq {K : PySem.W.Frag} {x : Dat} (hb : bas x = true) : PySem.W.kitAny K (.type (tyN x)) [.type "tuple", .type "list"] = some (sqB x) := by
  have one : ∀ (n m : String) (b : Bool), kitB n m = some b → PySem.W.kitOne K (.type n) (.type m) = some b := fun n m b h => kit_ty h
  have ff : ∀ n : String, kitB n "tuple" = some false → kitB n "list" = some false → PySem.W.kitAny K (.type n) [.type "tuple", .type "list"] = some false := fun n h1 h2 => by
    unfold PySem.W.kitAny
    rw [one _ _ _ h1]
    dsimp only
    unfold PySem.W.kitAny
    rw [one _ _ _ h2]
    rfl
  have ft : ∀ n : String, kitB n "tuple" = some false → kitB n "list" = some true → PySem.W.kitAny K (.type n) [.type "tuple", .type "list"] = some true := fun n h1 h2 => by
    unfold PySem.W.kitAny
    rw [one _ _ _ h1]
    dsimp only
    unfold PySem.W.kitAny
    rw [one _ _ _ h2]
  have tt : ∀ n : String, kitB n "tuple" = some true → PySem.W.kitAny K (.type n) [.type "tuple", .type "list"] = some true := fun n h1 => by
    unfold PySem.W.kitAny
    rw [one _ _ _ h1]
  cases x with
  | non => exact ff "NoneType" (by decide +kernel) (by decide +kernel)
  | bl b => exact ff "bool" (by decide +kernel) (by decide +kernel)
  | int i => exact ff "int" (by decide +kernel) (by decide +kernel)
  | str s => exact ff "str" (by decide +kernel) (by decide +kernel)
  | tup s => exact tt "tuple" (by decide +kernel)
  | lst s => exact ft "list" (by decide +kernel) (by decide +kernel)
  | scr s => exact ft "list" (by decide +kernel) (by decide +kernel)
  | dk s => exact ff "dict" (by decide +kernel) (by decide +kernel)
  | dt s => exact ff "dict" (by decide +kernel) (by decide +kernel)
  | fk s => exact ff "dict" (by decide +kernel) (by decide +kernel)
  | obj _ _ => cases hb
  | oth v => cases hb
/-- a tuple of the written part -/
def TupK (K : PySem.W.Frag) (t : Addr) (ds : List Dat) : Prop := ∃ vs : List V, (∃ (o : Obj) (its : Array Value) (n : Nat), K.lookup t = some o ∧ o.cls = .type "tuple" ∧ o.data = .seq its n ∧ its.size ≤ sizeLine ∧ Vals vs its.toList) ∧ RepL K (fun _ => none) vs ds
theorem tupK2 {K : PySem.W.Frag} {t : Addr} {dd : Option Addr} {n : Nat} {sl : Array (Option Value)} {s1 s2 : Str} {k1 k2 : Tok} (h : K.lookup t = some ⟨.type "tuple", dd, .seq #[.str s1 k1, .str s2 k2] n, sl⟩) : TupK K t [.str s1.cps.toList, .str s2.cps.toList] :=
  ⟨[.str s1, .str s2], ⟨_, _, _, h, rfl, rfl, by show 2 ≤ sizeLine; decide, .cons ⟨_, rfl⟩ (.cons ⟨_, rfl⟩ .nil)⟩, .cons (rep_str _) (.cons (rep_str _) .nil)⟩
theorem kIsiT {X : Cx} (K : PySem.W.Frag) (h : X.K = K) : CallR X (.builtin "isinstance") (rIsiT K) := h ▸ call_isiT
section
variable {K : KB} {w w1 : Bool} {ρ : LS} {te : TE} {R : Dat → Prop}
theorem g_isi2 (h : G K false ρ te fun x => bas x = true ∧ R (.bl (sqB x))) : G K w ρ (tCB (rIsiT K.F) (tCons te (tCons (tTup (tCons (tC (.ty "tuple")) (tCons (tC (.ty "list")) tNil))) tNil))) R := fun c σ H o Q q =>
  h c σ H o _ fun u H1 x o1 l1 r1 ⟨hb, k⟩ => ⟨by rw [sizeLine_eq]; decide, fun p hp =>
    ⟨u, p, [.ty "tuple", .ty "list"], _, [.type "tuple", .type "list"], sqB x, rfl, upd_same, .cons (.ty _) (.cons (.ty _) .nil), TyX.mono (Ex.new hp) (TyX.mono vw_le (tyX r1 hb)), kitAny_sq hb, q _ _ _ (o1.ex (Ex.new hp)) (l1.trans (Ex.new hp).le) (.bl _) k⟩⟩
theorem g_tupK {t : Addr} {ds : List Dat} (h : TupK K.F t ds) (k : R (.tup ds)) : G K w ρ (tC (.ref t)) R := fun c σ H o Q q => by
  obtain ⟨vs, hs, hr⟩ := h
  exact q _ H _ o .refl (.tup (.inr hs) (hr.mono (fun _ _ z => by cases z))) k
end
theorem inV2 {z a b : List Nat} (hz : z = a ∨ z = b) : inV (.str ⟨z.toArray⟩) [.str ⟨a.toArray⟩, .str ⟨b.toArray⟩] = true := by
  have e : ∀ u : List Nat, eqV (.str ⟨u.toArray⟩) (.str ⟨u.toArray⟩) = true := fun u => by
    unfold eqV
    exact beq_self_eq_true _
  unfold inV
  rw [List.any_cons, List.any_cons, List.any_nil, Bool.or_false]
  rcases hz with h | h
  · rw [h, e]; rfl
  · rw [h, e, Bool.or_true]
theorem o2_notIn2 {K : KB} {w1 w : Bool} {ρ : LS} {R : Dat → Prop} {z a b : List Nat} (hz : z = a ∨ z = b) (k : R (.bl false)) : Op2 K w1 w ρ (rIn K.F true) (.str z) (.tup [.str a, .str b]) R := fun c σ H u v o r1 r2 Q q => by
  cases r1
  cases r2 with
  | @tup p ys _ hb rg =>
  cases rg with
  | cons g1 g2 =>
  cases g2 with
  | cons g2 g3 =>
  cases g3
  cases g1
  cases g2
  refine ⟨p, _, rfl, .inr (ex_t vw_le hb), rfl, rfl, ?_⟩
  rw [inV2 hz]
  exact q _ H _ o .refl (.bl _) k
theorem at_last {α : Type} (xs : List α) (x : α) : atI (xs ++ [x]) (-1) = some x := by
  have e : ixN (xs ++ [x]).length (-1) = some xs.length := by
    rw [List.length_append, List.length_singleton]
    unfold ixN
    rw [if_neg (by omega)]
    have h2 : (0 : Int) ≤ -1 + ((xs.length + 1 : Nat) : Int) := by omega
    rw [if_pos (by omega)]
    congr 1
    omega
  unfold atI
  rw [e]
  show (xs ++ [x])[xs.length]? = some x
  rw [List.getElem?_append_right (Nat.le_refl _), Nat.sub_self]
  rfl
end BV

end

section
set_option maxHeartbeats 4000000
/-! t + u of tuples; not in a tuple of two texts -/
namespace BV
open PySem PySem.Spec L2
theorem kCatA {X : Cx} (K : PySem.W.Frag) (h : X.K = K) : OpR X (binaryOp .Add) (rCatA K) := h ▸ op_catA
section
variable {K : KB} {w w1 : Bool} {ρ : LS} {ta tb : TE} {R : Dat → Prop}
theorem g_catA (h : G K w ρ ta fun x => G K w ρ tb fun y => Op2 K w w ρ (rCatA K.F) x y R) : G K w ρ (tOp (rCatA K.F) ta tb) R := g_opS h
theorem repl_app {F : PySem.W.Frag} {B : Hp} {us : List V} {xs : List Dat} {vs : List V} {ys : List Dat} (h : RepL F B us xs) (g : RepL F B vs ys) : RepL F B (us ++ vs) (xs ++ ys) := by
  induction us generalizing xs with
  | nil => cases h; exact g
  | cons u us ih =>
    cases h with
    | cons h1 h2 => exact .cons h1 (ih h2)
theorem o2_catA {xs ys : List Dat} (hl : xs.length + ys.length ≤ 1000000) (k : R (.tup (xs ++ ys))) : Op2 K w w ρ (rCatA K.F) (.tup xs) (.tup ys) R := fun c σ H u v o r1 r2 Q q => by
  cases r1 with
  | @tup a us _ ha ra =>
  cases r2 with
  | @tup b vs _ hb rb =>
  have la := ra.length
  have lb := rb.length
  refine ⟨a, b, us, vs, rfl, rfl, ex_t vw_le ha, ex_t vw_le hb, by rw [la, lb]; exact Nat.le_trans hl (by decide), fun e => ?_, fun _ e => ?_, fun _ _ p hp => ?_⟩
  · subst e
    cases ra
    exact q _ H _ o .refl (.tup hb rb) k
  · subst e
    cases rb
    rw [List.append_nil] at k
    exact q _ H _ o .refl (.tup ha ra) k
  · exact q _ _ _ (o.ex (Ex.new hp)) (Ex.new hp).le (.tup (.inl (.inl (o.vw_new hp))) ((repl_app ra rb).mono (Le.vw (Ex.new hp).le))) k
theorem inV2e (z a b : List Nat) : inV (.str ⟨z.toArray⟩) [.str ⟨a.toArray⟩, .str ⟨b.toArray⟩] = (decide (z = a) || decide (z = b)) := by
  have e : ∀ u : List Nat, eqV (.str ⟨u.toArray⟩) (.str ⟨z.toArray⟩) = decide (z = u) := fun u => by
    unfold eqV
    rw [Bool.eq_iff_iff, beq_iff_eq, decide_eq_true_eq]
    constructor
    · intro h
      have := congrArg (fun s : Str => s.cps.toList) h
      simpa using this.symm
    · intro h; rw [h]
  unfold inV
  rw [List.any_cons, List.any_cons, List.any_nil, Bool.or_false, e, e]
theorem o2_nin2 {z a b : List Nat} (k : R (.bl (!(decide (z = a) || decide (z = b))))) : Op2 K w1 w ρ (rIn K.F true) (.str z) (.tup [.str a, .str b]) R := fun c σ H u v o r1 r2 Q q => by
  cases r1
  cases r2 with
  | @tup p ys _ hb rg =>
  cases rg with
  | cons g1 g2 =>
  cases g2 with
  | cons g2 g3 =>
  cases g3
  cases g1
  cases g2
  refine ⟨p, _, rfl, .inr (ex_t vw_le hb), rfl, rfl, ?_⟩
  rw [inV2e]
  exact q _ H _ o .refl (.bl _) k
end
theorem str400 : ∀ k ∈ List.range 402, (sW (toString ((k : Int) - 1))).length ≤ 100 := by decide +kernel
end BV

end

section
set_option maxHeartbeats 4000000
/-! sorted(xs), xs a list of tuples of ints and texts -/
namespace BV
open PySem PySem.Spec L2 PyProof.Rows
abbrev Atm := Int ⊕ List Nat
def atD : Atm → Dat
  | .inl i => .int i
  | .inr w => .str w
def AtV : V → Atm → Prop
  | .int i, .inl j => i = j
  | .str s, .inr w => s.cps.toList = w
  | _, _ => False
inductive AtL : List V → List Atm → Prop
  | nil : AtL [] []
  | cons {v : V} {k : Atm} {vs : List V} {ks : List Atm} : AtV v k → AtL vs ks → AtL (v :: vs) (k :: ks)
def shOk (shape : Nat → Bool) : Nat → List Atm → Prop
  | _, [] => True
  | i, .inl _ :: r => shape i = false ∧ shOk shape (i + 1) r
  | i, .inr _ :: r => shape i = true ∧ shOk shape (i + 1) r
inductive KL (K : PySem.W.Frag) (H : Hp) : List V → List (List Atm) → Prop
  | nil : KL K H [] []
  | cons {t : Addr} {ys : List V} {k : List Atm} {xs : List V} {ks : List (List Atm)} : SqT K H t ys → AtL ys k → KL K H xs ks → KL K H (.ref t :: xs) (k :: ks)
theorem kl_refs {K : PySem.W.Frag} {H : Hp} {xs : List V} {ks : List (List Atm)} (h : KL K H xs ks) : ∀ x ∈ xs, ∃ a, x = V.ref a := by
  induction h with
  | nil => exact fun x hx => absurd hx (by simp)
  | cons _ _ _ ih =>
    intro x hx
    rcases List.mem_cons.mp hx with e | e
    · exact ⟨_, e⟩
    · exact ih x e
/-- not greater -/
def kle (a b : List Atm) : Prop := (PyProof.Rows.listOrd PyProof.Rows.itemOrd).blt b a = false
def rSortT (K : PySem.W.Frag) : List V → Hp → VK → Prop := fun vs H Q => ∃ (a : Addr) (xs : List V) (ks : List (List Atm)) (shape : Nat → Bool), vs = [.ref a] ∧ SqL K H a xs ∧ KL K H xs ks ∧ (∀ k ∈ ks, shOk shape 0 k ∧ k ≠ []) ∧
  ∀ zs ls p, (zs.zip ls).Perm (xs.zip ks) → zs.length = ls.length → ls.Pairwise kle → H p = none → Q (.ref p) (upd H p (.lst zs))
theorem items_of {shape : Nat → Bool} : ∀ {k : List Atm} {ys : List V} {us : List Value} {i : Nat}, AtL ys k → Vals ys us → shOk shape i k → PyProof.Rows.tupItems shape i us = some k
  | [], _, _, i, .nil, .nil, _ => rfl
  | .inl n :: k, y :: ys, u :: us, i, .cons h t, .cons r rs, hs => by
    cases y with
    | int m =>
      obtain ⟨tk, rfl⟩ := r
      have h : m = n := h
      subst h
      show (if shape i = true then none else (PyProof.Rows.tupItems shape (i + 1) us).map (Sum.inl m :: ·)) = _
      rw [hs.1, if_neg Bool.false_ne_true, items_of t rs hs.2]
      rfl
    | _ => exact h.elim
  | .inr w :: k, y :: ys, u :: us, i, .cons h t, .cons r rs, hs => by
    cases y with
    | str s =>
      obtain ⟨tk, rfl⟩ := r
      have h : s.cps.toList = w := h
      subst h
      show (if shape i = true then (PyProof.Rows.tupItems shape (i + 1) us).map (Sum.inr s.cps.toList :: ·) else none) = _
      rw [hs.1, if_pos rfl, items_of t rs hs.2]
      rfl
    | _ => exact h.elim
theorem first_of {shape : Nat → Bool} {k : List Atm} {ys : List V} {us : List Value} (h : AtL ys k) (r : Vals ys us) (hs : shOk shape 0 k) (hk : k ≠ []) : ∃ f, us[0]? = some f ∧ (shape 0 = false → ∃ n t, f = .int n t) ∧ (shape 0 = true → ∃ x t, f = .str x t) := by
  cases h with
  | nil => exact absurd rfl hk
  | @cons y k0 ys k hv t =>
    cases r with
    | @cons _ u _ us r rs =>
      refine ⟨u, rfl, fun e => ?_, fun e => ?_⟩
      · cases k0 with
        | inl n =>
          cases y with
          | int m => obtain ⟨tk, rfl⟩ := r; exact ⟨_, _, rfl⟩
          | _ => exact hv.elim
        | inr w => have := hs.1; rw [e] at this; cases this
      · cases k0 with
        | inr w =>
          cases y with
          | str m => obtain ⟨tk, rfl⟩ := r; exact ⟨_, _, rfl⟩
          | _ => exact hv.elim
        | inl n => have := hs.1; rw [e] at this; cases this
section
variable {X : Cx} {pins : List (Addr × Obj)} {σ : L2.St} {H : Hp} {s : Shared}
/-- what the state says of them -/
theorem kl_state (I : Inv X pins σ H s) {shape : Nat → Bool} {xs : List V} {ks : List (List Atm)} (h : KL X.K H xs ks) : ∀ {us : List Value}, Vals xs us → (∀ k ∈ ks, shOk shape 0 k ∧ k ≠ []) →
    (∃ fs, PyProof.Rows.TupsOf s.heap shape us fs) ∧ us.map (PyProof.Rows.G.tupKeyC s.heap shape) = ks.map some ∧ ∀ u ∈ us, ∃ t ys k, u = Value.ref t ∧ SqT X.K H t ys ∧ AtL ys k ∧ PyProof.Rows.G.tupKeyC s.heap shape u = some k := by
  induction h with
  | nil => intro us r _; cases r; exact ⟨⟨[], .nil⟩, rfl, fun u hu => absurd hu (by simp)⟩
  | @cons t ys k xs ks ht ha _ ih =>
    intro us r hk
    cases r with
    | @cons _ u _ us r rs =>
      obtain rfl : u = Value.ref t := r
      obtain ⟨⟨fs, hfs⟩, hm, hu⟩ := ih rs fun k hk2 => hk k (List.mem_cons_of_mem _ hk2)
      obtain ⟨hs, hne⟩ := hk k List.mem_cons_self
      obtain ⟨its, ry, ⟨o, ho, hc, n, hd⟩, _⟩ := I.tuple ht
      obtain ⟨f, hf, f1, f2⟩ := first_of ha ry hs hne
      have hkey : PyProof.Rows.G.tupKeyC s.heap shape (.ref t) = some k := by
        unfold PyProof.Rows.G.tupKeyC
        have h1 : PyProof.Rows.G.isTupObj s.heap (.ref t) = true := by
          unfold PyProof.Rows.G.isTupObj
          dsimp only
          rw [ho]
          dsimp only
          rw [hc]
          rfl
        rw [if_pos h1]
        unfold PyProof.Rows.tupKey
        dsimp only
        rw [ho]
        dsimp only
        rw [hd]
        dsimp only
        exact items_of ha ry hs
      refine ⟨⟨f :: fs, .cons ⟨t, o, its.toArray, n, rfl, ho, hc, hd, by simpa using hf, f1, f2⟩ hfs⟩, by rw [List.map_cons, List.map_cons, hm, hkey], fun v hv => ?_⟩
      rcases List.mem_cons.mp hv with e | hv
      · subst e
        exact ⟨t, ys, k, rfl, ht, ha, hkey⟩
      · exact hu v hv
theorem cr_sortT : CallR X (.builtin "sorted") (rSortT X.K) := by
  intro pins s σ H vs us Q I r h
  obtain ⟨a, xs, ks, shape, rfl, hs, hkl, hks, q⟩ := h
  obtain ⟨its, rv, hl, hz⟩ := I.list hs
  obtain ⟨u, rfl, ru⟩ := vals1 r
  obtain rfl : u = Value.ref a := ru
  obtain ⟨⟨fs, hfs⟩, hm, hu⟩ := kl_state I hkl rv hks
  refine PyProof.Rows.G.sorted_tups (shape := shape) hl.isList hfs (fun v hv => ?_) (by rw [← rv.length]; exact hz) fun st' hp hso _ => ?_
  · obtain ⟨_, _, k, _, _, _, e⟩ := hu v hv
    exact ⟨k, e⟩
  have hpl : (arrOf st').toList.Perm (its.zip its) := by
    have := hp.toList
    rw [pairsOf_toList] at this
    exact this
  have hself : ∀ p ∈ (arrOf st').toList, p.1 = p.2 ∧ p.1 ∈ its := fun p hp' => mem_zip_self (hpl.mem_iff.mp hp')
  have hout : (((arrOf st').map (·.2)).toList).Perm its := by
    rw [Array.toList_map]
    have h1 := hpl.map (·.2)
    have h2 : (its.zip its).map (·.2) = its := by
      rw [List.map_snd_zip]
      exact Nat.le_refl _
    rw [h2] at h1
    exact h1
  obtain ⟨n, hn⟩ := sortedAll_at s.heap its ((arrOf st').map (·.2))
  generalize hoe : ((arrOf st').map (·.2)).toList = out at hout
  have h3 : ∀ u ∈ out, ∃ a, u = Value.ref a := fun u hu' => by
    obtain ⟨t, _, _, e, _⟩ := hu u (hout.mem_iff.mp hu')
    exact ⟨t, e⟩
  have hb : xs = its.map backV := (refs_back rv (kl_refs hkl)).1
  have hkk : its.map (fun u => (PyProof.Rows.G.tupKeyC s.heap shape u).getD []) = ks := by
    have := congrArg (List.map fun o : Option (List Atm) => o.getD []) hm
    rw [List.map_map, List.map_map] at this
    exact this.trans (by rw [show ((fun o : Option (List Atm) => o.getD []) ∘ some) = id from rfl, List.map_id])
  refine ⟨.ref (s.heap.objs.size + 1), upd H (s.heap.objs.size + 1) (.lst (out.map backV)), I.laid (t' := s.toks) (fun b o e => sortedAll_old e) (Nat.le_succ _) ⟨?_, out, n, vals_back h3, ?_⟩, rfl,
    q _ (out.map fun u => (PyProof.Rows.G.tupKeyC s.heap shape u).getD []) _ ?_ (by rw [List.length_map, List.length_map]) ?_ (I.hok.fresh (Nat.le_succ _))⟩
  · rw [List.length_map, hout.length_eq, ← rv.length]; exact hz
  · rw [← hoe, Array.toArray_toList]
    exact hn
  · rw [hb, ← hkk, List.zip_map', List.zip_map']
    exact hout.map _
  · rw [List.pairwise_iff_getElem]
    intro i j hi hj hij
    rw [List.length_map] at hi hj
    have hsz : (arrOf st').size = (pairsOf its).size := hp.size_eq
    have hol : out.length = (arrOf st').size := by rw [← hoe]; simp
    have key := hso i j (Nat.le_of_lt hij) (by rw [← hsz, ← hol]; exact hj)
    have kk : ∀ m, m < out.length → ∀ (hm' : m < out.length), KK (PyProof.Rows.G.tupKindC s.heap shape) (arrOf st') m = (PyProof.Rows.G.tupKeyC s.heap shape out[m]).getD [] := fun m hm1 hm' => by
      have hma : m < (arrOf st').size := by rw [← hol]; exact hm1
      unfold KK
      rw [Array.getElem?_eq_getElem hma]
      dsimp only
      have he := (hself (arrOf st')[m] (by simp)).1
      have ho : out[m] = (arrOf st')[m].2 := by
        subst hoe
        simp
      rw [ho, ← he]
    rw [kk i hi hi, kk j hj hj] at key
    rw [List.getElem_map, List.getElem_map]
    exact key
end
abbrev keyD (k : List Atm) : Dat := .tup (k.map atD)
theorem atv_of {F : PySem.W.Frag} {B : Hp} {v : V} {k : Atm} (h : Rep F B v (atD k)) : AtV v k := by
  cases k with
  | inl i => cases h; rfl
  | inr w => cases h; rfl
theorem atl_of {F : PySem.W.Frag} {B : Hp} : ∀ {ys : List V} {k : List Atm}, RepL F B ys (k.map atD) → AtL ys k
  | [], [], _ => .nil
  | y :: ys, a :: k, h => by
    cases h with
    | cons h1 h2 => exact .cons (atv_of h1) (atl_of h2)
  | [], _ :: _, h => by cases h
  | _ :: _, [], h => by cases h
theorem kl_of {F : PySem.W.Frag} {B H : Hp} (e : Ex B H) : ∀ {xs : List V} {ks : List (List Atm)}, RepL F B xs (ks.map keyD) → KL F H xs ks
  | [], [], _ => .nil
  | x :: xs, k :: ks, h => by
    cases h with
    | cons h1 h2 =>
      cases h1 with
      | tup hs hr => exact .cons (ex_t e hs) (atl_of hr) (kl_of e h2)
  | [], _ :: _, h => by cases h
  | _ :: _, [], h => by cases h
theorem rep_zip {F : PySem.W.Frag} {B : Hp} : ∀ {xs : List V} {ks : List (List Atm)}, RepL F B xs (ks.map keyD) → ∀ p ∈ xs.zip ks, Rep F B p.1 (keyD p.2)
  | [], _, _, p, hp => by simp at hp
  | x :: xs, [], _, p, hp => by simp at hp
  | x :: xs, k :: ks, h, p, hp => by
    cases h with
    | cons h1 h2 =>
      rw [List.zip_cons_cons] at hp
      rcases List.mem_cons.mp hp with e | hp
      · subst e; exact h1
      · exact rep_zip h2 p hp
theorem zip_rep {F : PySem.W.Frag} {B : Hp} : ∀ {zs : List V} {ls : List (List Atm)}, zs.length = ls.length → (∀ p ∈ zs.zip ls, Rep F B p.1 (keyD p.2)) → RepL F B zs (ls.map keyD)
  | [], [], _, _ => .nil
  | z :: zs, l :: ls, h, g => .cons (g (z, l) (by rw [List.zip_cons_cons]; exact List.mem_cons_self)) (zip_rep (by simpa using h) fun p hp => g p (by rw [List.zip_cons_cons]; exact List.mem_cons_of_mem _ hp))
  | [], _ :: _, h, _ => by cases h
  | _ :: _, [], h, _ => by cases h
theorem kSortT {X : Cx} (K : PySem.W.Frag) (h : X.K = K) : CallR X (.builtin "sorted") (rSortT K) := h ▸ cr_sortT
theorem oc_sortT {K : KB} {w : Bool} {ρ : LS} {R : Dat → Prop} (shape : Nat → Bool) {ks : List (List Atm)} (hs : ∀ k ∈ ks, shOk shape 0 k ∧ k ≠ []) (k : ∀ ls : List (List Atm), ls.Perm ks → ls.Pairwise kle → R (.lst (ls.map keyD))) : OpC K w w ρ (rSortT K.F) [.lst (ks.map keyD)] R := fun c σ H us o r Q q => by
  cases r with
  | cons r1 r2 =>
  cases r2
  cases r1 with
  | @lst a xs _ ha rl =>
  have hlen := rl.length
  rw [List.length_map] at hlen
  refine ⟨a, xs, ks, shape, rfl, .inl (.inl (vw_le a _ ha)), kl_of vw_le rl, hs, fun zs ls p hp hl hso hn => ?_⟩
  have hls : ls.Perm ks := by
    have h1 := hp.map (·.2)
    rw [List.map_snd_zip (by omega), List.map_snd_zip (by omega)] at h1
    exact h1
  have hr := zip_rep hl fun p hp' => rep_zip rl p (hp.mem_iff.mp hp')
  exact q _ _ _ (o.ex (Ex.new hn)) (Ex.new hn).le (.lst (o.vw_new hn) (hr.mono (Le.vw (Ex.new hn).le))) (k ls hls hso)
end BV

end

section
set_option maxHeartbeats 4000000
/-! not in a tuple of ints; None in a list of two texts -/
namespace BV
open PySem PySem.Spec L2
section
variable {K : KB} {w w1 : Bool} {ρ : LS} {ta tb : TE} {R : Dat → Prop}
theorem o2_ninZ {z : Int} {ns : List Int} (k : R (.bl (!ns.contains z))) : Op2 K w1 w ρ (rIn K.F true) (.int z) (.tup (ns.map Dat.int)) R := fun c σ H u v o r1 r2 Q q => by
  cases r1
  cases r2 with
  | @tup b ys _ hb rg =>
  have e := rg.ints
  subst e
  refine ⟨b, _, rfl, .inr (ex_t vw_le hb), rfl, all_flat ns, ?_⟩
  rw [if_pos rfl, inV_ints]
  exact q _ H _ o .refl (.bl _) k
theorem o2_nin24 {z : Int} (k : R (.bl (!(decide (z = 2) || decide (z = 4))))) : Op2 K w1 w ρ (rIn K.F true) (.int z) (.tup [.int 2, .int 4]) R :=
  o2_ninZ (ns := [2, 4]) (by
    have e : ([2, 4] : List Int).contains z = (decide (z = 2) || decide (z = 4)) := by
      rw [List.contains_cons, List.contains_cons, List.contains_nil, Bool.or_false]
      rfl
    rw [e]; exact k)
theorem o2_inNon2 {a b : List Nat} (k : R (.bl false)) : Op2 K w1 w ρ (rIn K.F false) .non (.lst [.str a, .str b]) R := fun c σ H u v o r1 r2 Q q => by
  cases r1
  cases r2 with
  | @lst p ys _ hb rg =>
  cases rg with
  | cons g1 g2 =>
  cases g2 with
  | cons g2 g3 =>
  cases g3
  cases g1
  cases g2
  refine ⟨p, _, rfl, .inl (.inl (.inl (vw_le p _ hb))), rfl, rfl, ?_⟩
  exact q _ H _ o .refl (.bl _) k
end
end BV

end

section
set_option maxHeartbeats 4000000
/-! text * n; min of three; own lists as arguments of a call whose answer holds no list -/
namespace BV
open PySem PySem.Spec L2
/-- text * int -/
def rRepS : R2 := fun x y H Q => ∃ (a : List Nat) (k : Int), x = .str (S a) ∧ y = .int k ∧ 0 ≤ k ∧ k ≤ 1000000 ∧ a.length * k.toNat ≤ 1000000 ∧ Q (.str (S (List.replicate k.toNat a).flatten)) H
theorem foldl_repN (its : List Nat) : ∀ (k : Nat) (acc : List Nat), List.foldl (fun x1 x2 => x1 ++ x2) acc.toArray (List.replicate k its.toArray) = (acc ++ (List.replicate k its).flatten).toArray
  | 0, acc => by simp
  | k + 1, acc => by
    have e : acc.toArray ++ its.toArray = (acc ++ its).toArray := by simp
    have e2 : (acc ++ its) ++ (List.replicate k its).flatten = acc ++ (List.replicate (k + 1) its).flatten := by
      rw [List.replicate_succ, List.flatten_cons, List.append_assoc]
    rw [← e2, ← foldl_repN its k (acc ++ its), ← e, List.replicate_succ, List.foldl_cons]
theorem flat_nil : ∀ (k : Nat), (List.replicate k ([] : List Nat)).flatten = []
  | 0 => rfl
  | k + 1 => by rw [List.replicate_succ, List.flatten_cons, flat_nil k]; rfl
theorem op_repS {X : Cx} : OpR X (binaryOp .Mult) rRepS := by
  intro pins s σ H x y v u Q I rx ry h
  obtain ⟨a, k, rfl, rfl, h0, h1, hz, q⟩ := h
  obtain ⟨t, rfl⟩ := rx
  obtain ⟨t', rfl⟩ := ry
  have c0 : (decide (k < -2 ^ 63) || decide (k ≥ 2 ^ 63)) = false := by
    rw [decide_eq_false (by omega), decide_eq_false (by omega)]; rfl
  have hl : (S a).length = a.length := S_len a
  refine PySem.P.mul_str c0 (fun k1 k2 hb => ?_) (fun _ _ => ?_) ?_
  · have hk : 0 < k := by omega
    rw [hl] at hb
    have ha : a.length * k.toNat ≥ a.length := Nat.le_mul_of_pos_right _ (by omega)
    have h3 : (2 ^ 63 - 1) / k ≥ 1000000 := by
      rw [ge_iff_le, Int.le_ediv_iff_mul_le hk]
      have : (1000000 : Int) * k ≤ 1000000 * 1000000 := Int.mul_le_mul_of_nonneg_left h1 (by decide)
      omega
    omega
  · rw [hl]
    exact decide_eq_false (by have := big hz; omega)
  · by_cases hk : k < 1
    · rw [if_pos hk]
      have : k.toNat = 0 := by omega
      rw [this] at q
      exact ⟨by decide, .str (S []), H, I.tok _, ⟨_, rfl⟩, q⟩
    · rw [if_neg hk]
      by_cases h2 : (k == 1 || (S a).length == 0) = true
      · rw [if_pos h2]
        have e : (List.replicate k.toNat a).flatten = a := by
          rw [Bool.or_eq_true, beq_iff_eq, beq_iff_eq] at h2
          rcases h2 with h2 | h2
          · rw [h2]; show [a].flatten = a; simp
          · rw [hl] at h2
            rw [List.eq_nil_of_length_eq_zero h2, flat_nil]
        rw [e] at q
        exact ⟨.str (S a), H, I, ⟨_, rfl⟩, q⟩
      · rw [if_neg h2]
        have e : (⟨List.foldl (fun x1 x2 => x1 ++ x2) #[] (List.replicate k.toNat (S a).cps)⟩ : Str) = S (List.replicate k.toNat a).flatten := by
          show (⟨_⟩ : Str) = ⟨_⟩
          congr 1
          have := foldl_repN a k.toNat []
          rw [List.nil_append] at this
          exact this
        rw [e]
        exact ⟨by
          rw [S_len, PyProof.Rows.lm_len_rep_flat, Nat.mul_comm]
          exact big hz, .str (S (List.replicate k.toNat a).flatten), H, I.tok _, ⟨_, rfl⟩, q⟩
section
variable {K : KB} {w w1 : Bool} {ρ : LS} {ta tb : TE} {t : TA} {R : Dat → Prop}
theorem o2_repS {a : List Nat} {k : Int} (h0 : 0 ≤ k) (h1 : k ≤ 1000000) (hz : a.length * k.toNat ≤ 1000000) (q : R (.str (List.replicate k.toNat a).flatten)) : Op2 K w1 w ρ rRepS (.str a) (.int k) R := fun c σ H u v o r1 r2 Q q' => by
  cases r1; cases r2
  exact ⟨a, k, rfl, rfl, h0, h1, hz, q' _ H _ o .refl (.str _) q⟩
/-- min of three ints -/
def rMin3 : List V → Hp → VK → Prop := fun xs H Q => ∃ i j k, xs = [.int i, .int j, .int k] ∧ Q (.int (min (min i j) k)) H
theorem call_min3_ {X : Cx} (hc : X.calm = true) : CallR X (.builtin "min") rMin3 := fun pins s σ H xs us Q I r h => by
  obtain ⟨i, j, k, rfl, q⟩ := h
  refine call_min3Nu hc pins s σ H _ us Q I r ⟨_, _, _, _, rfl, ?_, q⟩
  have h2 : ∀ x y : Int, nuMin2 (.int x) (.int y) = some (.int (min x y)) := fun x y => by
    show (some (decide (y < x))).map (fun c => if c = true then V.int y else V.int x) = _
    by_cases e : y < x
    · rw [decide_eq_true e, show min x y = y by omega]; rfl
    · rw [decide_eq_false e, show min x y = x by omega]; rfl
  unfold nuMin3
  rw [h2]
  show nuMin2 (.int (min i j)) (.int k) = _
  rw [h2]
theorem oc_min3 {i j k : Int} (q : R (.int (min (min i j) k))) : OpC K w1 w ρ rMin3 [.int i, .int j, .int k] R := fun c σ H us o r Q q' => by
  cases r with
  | cons r1 r =>
  cases r with
  | cons r2 r =>
  cases r with
  | cons r3 r =>
  cases r
  cases r1; cases r2; cases r3
  exact ⟨i, j, k, rfl, q' _ H _ o .refl (.int _) q⟩
/-! ### answers that hold no list -/
mutual
def flat : Dat → Bool
  | .non => true
  | .bl _ => true
  | .int _ => true
  | .str _ => true
  | .tup ds => flatL ds
  | _ => false
def flatL : List Dat → Bool
  | [] => true
  | d :: ds => flat d && flatL ds
end
theorem own_not_tup {c : Bc} {σ : St} {H : Hp} (o : Ok K c ρ σ H) {a : Addr} (hp : Pr ρ σ a) {xs : List V} : ¬ Rd H a (.tup xs) := by
  obtain ⟨i, s, v, h1, h2, h3⟩ := hp
  have h := o.sl i s v h1 h2
  intro hr
  have key : ∀ ob, H a = some ob → (∀ ys, ob ≠ .tup ys) → (∀ x y, ob ≠ .frz x y) → False := fun ob e n1 n2 => by
    rcases hr with z | ⟨o', z⟩
    · rw [e] at z; cases z; exact n1 _ rfl
    · rw [e] at z; cases z; exact n2 _ _ rfl
  cases s with
  | no => simp [pa] at h3
  | d x => simp [pa] at h3
  | exc p q r t => simp [pa] at h3
  | own ds =>
    obtain ⟨b, ys, rfl, e, _⟩ := h
    cases h3
    exact key _ e (fun _ => by intro z; cases z) fun _ _ => by intro z; cases z
  | od ds =>
    obtain ⟨b, ys, rfl, e, _⟩ := h
    cases h3
    exact key _ e (fun _ => by intro z; cases z) fun _ _ => by intro z; cases z
  | ot ds =>
    obtain ⟨b, ys, rfl, e, _⟩ := h
    cases h3
    exact key _ e (fun _ => by intro z; cases z) fun _ _ => by intro z; cases z
  | src b =>
    obtain ⟨_, x, y, z, e⟩ := h
    cases h3
    exact key _ e (fun _ => by intro z; cases z) fun _ _ => by intro z; cases z
  | ins b C fs =>
    obtain ⟨dx, ys, _, e, _⟩ := h
    cases h3
    exact key _ e (fun _ => by intro z; cases z) fun _ _ => by intro z; cases z
theorem tup_low {c : Bc} {σ : St} {H : Hp} (o : Ok K c ρ σ H) {a : Addr} {xs : List V} (h : SqT K.F (vw c true ρ σ H) a xs) : SqT K.F (vw c false ρ σ H) a xs := by
  rcases h with h | h
  · have hr : Rd H a (.tup xs) := ex_rd vw_le h
    have np : ¬ Pr ρ σ a := fun z => own_not_tup o z hr
    have nP : ¬ c.P a := fun z => by
      rcases h with e | ⟨o', e⟩ <;> exact (hid_some.mp e).1 (.inl z)
    have hv : ∀ ob, H a = some ob → vw c false ρ σ H a = some ob := fun ob e => hid_some.mpr ⟨by
      rintro (z | z)
      · exact nP z
      · rw [if_neg Bool.false_ne_true] at z
        exact np z, e⟩
    rcases hr with e | ⟨o', e⟩
    · exact .inl (.inl (hv _ e))
    · exact .inl (.inr ⟨o', hv _ e⟩)
  · exact .inr h
mutual
theorem flat_rep {c : Bc} {σ : St} {H : Hp} (o : Ok K c ρ σ H) : ∀ (d : Dat) {v : V}, flat d = true → Rep K.F (vw c true ρ σ H) v d → Rep K.F (vw c false ρ σ H) v d
  | .non, _, _, h => by cases h; exact .non
  | .bl _, _, _, h => by cases h; exact .bl _
  | .int _, _, _, h => by cases h; exact .int _
  | .str _, _, _, h => by cases h; exact .str _
  | .tup ds, _, hf, h => by
    cases h with
    | tup s r => exact .tup (tup_low o s) (flat_repL o ds hf r)
  | .lst _, _, hf, _ => by cases hf
  | .scr _, _, hf, _ => by cases hf
  | .dk _, _, hf, _ => by cases hf
  | .dt _, _, hf, _ => by cases hf
  | .fk _, _, hf, _ => by cases hf
  | .obj _ _, _, hf, _ => by cases hf
  | .oth _, _, hf, _ => by cases hf
theorem flat_repL {c : Bc} {σ : St} {H : Hp} (o : Ok K c ρ σ H) : ∀ (ds : List Dat) {vs : List V}, flatL ds = true → RepL K.F (vw c true ρ σ H) vs ds → RepL K.F (vw c false ρ σ H) vs ds
  | [], _, _, h => by cases h; exact .nil
  | d :: ds, _, hf, h => by
    cases h with
    | cons h1 h2 =>
      have hf' : (flat d && flatL ds) = true := hf
      rw [Bool.and_eq_true] at hf'
      exact .cons (flat_rep o d hf'.1 h1) (flat_repL o ds hf'.2 h2)
end
theorem g_callOw {S : List Dat → (Dat → Prop) → Prop} {E : XK} (h : GA K true ρ t fun ds => S ds fun d => flat d = true ∧ R d) : G K false ρ (tCall (spF K.F S) [] E t) R := fun c σ H o Q q =>
  h c σ H o _ fun vs H1 ds o1 l1 r1 k => by
    show spF K.F S (vs ++ []) H1 Q E
    rw [List.append_nil]
    exact ⟨_, ds, _, o1.trk, r1, k, fun v H' d e rv rd => q v H' d (o1.ex e) (l1.trans e.le) (flat_rep (o1.ex e) d rd.1 rv) rd.2⟩
end
end BV

end

section
set_option maxHeartbeats 4000000
/-! a dict comprehension; not of data by its truth -/
namespace BV
open PySem PySem.Spec L2
section
variable {J : It} {n : Nat} {Gd : Hp → Prop} {Y : Nat → Hp → V → Hp → Prop}
theorem dc_it (w : Walk J n Gd Y) {g : TG} {tt : TT} {tk tv : TE} {vs : List Nat} {σ : St} {H1 : Hp} {D : Addr} {Qd : Hp → Prop} (Pv : Nat → Hp → Prop) (h0 : Pv 0 (upd H1 D (.dK []))) (hG : ∀ i H, i ≤ n → Pv i H → Gd H)
    (hs : ∀ i x H H', i < n → Pv i H → Y i H x H' → g x (wipe σ vs) H' fun σ2 H2 => wipe σ2 vs = wipe σ vs ∧ tt σ2 H2 fun b H3 =>
      if b = true then tk σ2 H3 fun y H4 => tv σ2 H4 fun z H5 => ∃ kvs k, y = kV k ∧ H5 D = some (.dK kvs) ∧ kvs.length < sizeLine ∧ Pv (i + 1) (upd H5 D (.dK (putK kvs k z))) else Pv (i + 1) H3) (hd : ∀ H, Pv n H → Qd H) :
    ∃ W : Nat → Nat → Hp → Prop, (∃ m, W 0 m (upd H1 D (.dK []))) ∧ ∀ i m H, W i m H →
      (J.stop i H ∧ Qd H) ∨ (J.go i H ∧ ∃ Nx : Hp → Prop, (∀ H', Nx H' → ∃ m', m' < m ∧ W (i + 1) m' H') ∧ ∀ x H', J.yld i H x H' → g x (wipe σ vs) H' fun σ2 H2 => wipe σ2 vs = wipe σ vs ∧ tt σ2 H2 fun b H3 =>
        if b = true then tk σ2 H3 fun y H4 => tv σ2 H4 fun z H5 => ∃ kvs k, y = kV k ∧ H5 D = some (.dK kvs) ∧ kvs.length < sizeLine ∧ Nx (upd H5 D (.dK (putK kvs k z))) else Nx H3) := by
  refine ⟨fun i m H => m = n - i ∧ i ≤ n ∧ Pv i H, ⟨n, by simp, Nat.zero_le _, h0⟩, ?_⟩
  rintro i m H ⟨rfl, hi, p⟩
  have q := hG i H hi p
  by_cases hlt : i < n
  · exact .inr ⟨w.goes i H hlt q, Pv (i + 1), fun H' p' => ⟨n - (i + 1), by omega, rfl, hlt, p'⟩, fun x H' y => hs i x H H' hlt p (w.yields i H x H' hlt q y)⟩
  · have e : i = n := by omega
    subst e
    exact .inl ⟨w.stops H q, hd H p⟩
end
section
variable {K : KB} {w w1 : Bool} {ρ : LS} {ta tb : TE} {t : TA} {R : Dat → Prop}
theorem putKV_len {κ α : Type} [DecidableEq κ] (kvs : List (κ × α)) (k : κ) (v : α) : (putKV kvs k v).length ≤ kvs.length + 1 := by
  unfold putKV
  split
  · rw [List.length_map]; omega
  · rw [List.length_append, List.length_singleton]; exact Nat.le_refl _
theorem repD_len {F : PySem.W.Frag} {B : Hp} : ∀ {xs : List (Key × V)} {kvs : List (DKey × Dat)}, RepD F B xs kvs → xs.length = kvs.length
  | _, _, .nil => rfl
  | _, _, .cons _ t => by rw [List.length_cons, List.length_cons, repD_len t]
theorem gn_dc {wi : TI} {g : TG} {tt : TT} {tk tv : TE} {vs : List Nat} {RS : Slot → Prop} (hn : ∀ i, i ∈ vs → ∀ s, ρ[i]? = some s → ∀ v, pa s v = none) (h : GI K false ρ wi fun ds => ds.length < 1000000 ∧ ∃ W : Nat → List (DKey × Dat) → Prop, W 0 [] ∧
    (∀ i x acc, ds[i]? = some x → W i acc → acc.length ≤ i → GC K vs (wipeS ρ vs) g x fun ρ2 => GT K ρ2 tt fun b => (b = true → G K false ρ2 tk fun y => ∃ k, KeyD y k ∧ G K false ρ2 tv fun z => W (i + 1) (putKV acc k z)) ∧ (b = false → W (i + 1) acc)) ∧ ∀ acc, acc.length ≤ ds.length → W ds.length acc → RS (.od acc)) :
    GN K ρ (tDc wi g tt tk tv vs) RS := fun c σ H o Q q => by
  refine h c σ H o _ fun J H2 n Gj Y ds o2 l wk hlen hG hY ⟨hsz, W, h0, hs, hd⟩ D hD => ?_
  have hD0 : H D = none := by
    cases e : H D with
    | none => rfl
    | some ob =>
      have nv := o2.vis (w := false) hD
      rw [l D ob (fun z => nv (.inr (by rw [if_neg Bool.false_ne_true]; exact z.pr))) e] at hD
      cases hD
  have n0 : c.H0 D = none ∨ c.X D := by
    by_cases hx : c.X D
    · exact .inr hx
    · left
      cases e : c.H0 D with
      | none => rfl
      | some ob => rw [o2.fr D ob hx e] at hD; cases hD
  -- the context in which D is hidden, and does not stand in H0
  have key : ∃ c1 : Bc, c1.P = c.P ∧ c1.H0 D = none ∧ Ok K c1 ρ σ H2 ∧ ∀ H', Ok K c1 ρ σ H' → Ok K c ρ σ H' := by
    have hb : ∀ (ρ' : LS) (σ' : St) (H' : Hp), Ok0 K.F ⟨c.P, fun b => c.X b, fun b => @ite _ (b = D) (Classical.propDecidable _) none (c.H0 b)⟩ ρ' σ' H' → Ok0 K.F c ρ' σ' H' := fun ρ' σ' H' k => by
      refine ⟨k.len, k.sl, k.inj, k.np, fun b ob h1 h2 => ?_, fun b h => ?_, k.pt⟩
      · refine k.fr b ob h1 ?_
        show @ite _ (b = D) (Classical.propDecidable _) none (c.H0 b) = some ob
        have e : b ≠ D := fun z => by
          rcases n0 with n0 | n0
          · rw [z, n0] at h2; cases h2
          · exact h1 (by rw [z]; exact n0)
        rw [if_neg e]
        exact h2
      · rcases k.xs b h with z | z
        · exact .inl z
        · change @ite _ (b = D) (Classical.propDecidable _) none (c.H0 b) = none at z
          by_cases e : b = D
          · rw [e]; exact n0.symm
          · rw [if_neg e] at z; exact .inr z
    refine ⟨⟨c.P, fun b => c.X b, fun b => @ite _ (b = D) (Classical.propDecidable _) none (c.H0 b)⟩, rfl, if_pos rfl, ⟨⟨o2.len, o2.sl, o2.inj, o2.np, fun b ob h1 h2 => ?_, fun b h => ?_, o2.pt⟩, o2.xo.tr hb fun ρ σ H => Ex.refl _⟩, fun H' k => ⟨hb ρ σ H' k.toOk0, o2.xo⟩⟩
    · change @ite _ (b = D) (Classical.propDecidable _) none (c.H0 b) = some ob at h2
      by_cases e : b = D
      · rw [if_pos e] at h2; cases h2
      · rw [if_neg e] at h2; exact o2.fr b ob h1 h2
    · rcases o2.xs b h with z | z
      · exact .inl z
      · right
        show @ite _ (b = D) (Classical.propDecidable _) none (c.H0 b) = none
        by_cases e : b = D
        · rw [if_pos e]
        · rw [if_neg e]; exact z
  obtain ⟨c1, hP, hD1, o3, hback⟩ := key
  have o4 : Ok K (c1.plus D) ρ σ (upd H2 D (.dK [])) := o3.plus hD
  -- what is seen at the start is seen with D hidden
  have see : ∀ {H' : Hp}, (∀ b ob, b ≠ D → ¬ Fr ρ σ b → H2 b = some ob → H' b = some ob) → Ex (sv c ρ σ H2) (sv (c1.plus D) ρ σ H') := fun l' => hid_ex fun b ob hb e => by
    have nb : b ≠ D := fun z => by rw [z, hD] at e; cases e
    refine ⟨fun z => ?_, l' b ob nb (fun z => hb (.inr (by rw [if_neg Bool.false_ne_true]; exact z.pr))) e⟩
    rcases z with (z | z) | z
    · exact hb (.inl (by rw [← hP]; exact z))
    · exact nb z
    · exact hb (.inr z)
  refine dc_it wk (Qd := Q (.ref D)) (fun i H' => ∃ acc accD, Ok K (c1.plus D) ρ σ H' ∧ (∀ b ob, b ≠ D → ¬ Fr ρ σ b → H2 b = some ob → H' b = some ob) ∧ H' D = some (.dK acc) ∧ RepD K.F (sv (c1.plus D) ρ σ H') acc accD ∧ accD.length ≤ i ∧ W i accD) ⟨[], [], o4, fun b ob nb _ e => by rw [upd_ne nb]; exact e, upd_same, .nil, Nat.le_refl _, h0⟩ (fun i H' _ ⟨acc, accD, o', l', _⟩ => hG H' ((see l').trans vw_le)) (fun i x H3 H' hi ⟨acc, accD, o', l', hA, rA, hl, w'⟩ y => ?_) fun H' ⟨acc, accD, o', l', hA, rA, hl, w'⟩ => ?_
  · -- a turn
    obtain ⟨d, e1, o5, e5, r5⟩ := hY i H3 x H' (c1.plus D) (wipeS ρ vs) (L2.wipe σ vs) hi (o'.wipe vs) (by
      rw [(Off.wipe (σ := σ) hn).vw hn]
      exact see l') y
    have o6 : Ok K (c1.plus D) ρ σ H' := o'.ex e5
    have hA6 : H' D = some (.dK acc) := e5 D _ hA
    have rA6 := rA.mono (Le.vw (w := false) (c := c1.plus D) (ρ := ρ) (σ := σ) e5.le)
    refine hs i d accD e1 w' hl (c1.plus D) (L2.wipe σ vs) H' x o5 r5 _ fun ρ2 σ2 o7 e7 f7 k7 => ?_
    have f8 := f7 ρ σ (Off.wipe hn)
    refine ⟨wipe_ext (f8.l2.trans (wipe_length σ vs).symm |>.trans (wipe_length σ vs)) (fun i hi => (f8.eq i hi).2) |>.trans rfl, k7 (c1.plus D) σ2 H' o7 _ fun b H4 o8 l8 k8 => ?_⟩
    obtain ⟨b1, b2⟩ := o6.back hn f8 o8 l8
    have nF : ∀ {ρ' : LS} {σ' : St} {Hx : Hp}, Ok K (c1.plus D) ρ' σ' Hx → ¬ Fr ρ' σ' D := fun ok z => ok.np D z.pr (.inr rfl)
    have hA4 : H4 D = some (.dK acc) := l8 D _ (nF o7) hA6
    have rA4 := rA6.mono (b2.vw (w := false))
    have lA : ∀ b ob, b ≠ D → ¬ Fr ρ σ b → H2 b = some ob → H4 b = some ob := fun b ob nb nf e => b2 b ob nf (e5 b ob (l' b ob nb nf e))
    cases b with
    | true =>
      rw [if_pos rfl]
      refine k8.1 rfl (c1.plus D) σ2 H4 o8 _ fun v H5 y o9 l9 r9 ⟨dk, hky, k9⟩ => ?_
      refine k9 (c1.plus D) σ2 H5 o9 _ fun v2 H6 y2 o10 l10 r10 k10 => ?_
      obtain ⟨d1, d2⟩ := b1.back hn f8 o9 l9
      obtain ⟨d3, d4⟩ := d1.back hn f8 o10 l10
      have hA5 : H5 D = some (.dK acc) := l9 D _ (nF o8) hA4
      have hA6' : H6 D = some (.dK acc) := l10 D _ (nF o9) hA5
      have rA5 := (rA4.mono (d2.vw (w := false))).mono (d4.vw (w := false))
      have ek := hky.rep r9
      have r10' : Rep K.F (sv (c1.plus D) ρ σ H6) v2 y2 := by
        have e : vw (c1.plus D) false ρ2 σ2 H6 = vw (c1.plus D) false ρ σ H6 := f8.vw hn
        rw [e] at r10
        exact r10
      have up : Ex (sv (c1.plus D) ρ σ H6) (sv (c1.plus D) ρ σ (upd H6 D (.dK (putK acc dk.toK v2)))) := hid_ex fun b ob hb e => ⟨hb, by rw [upd_ne fun z => hb (.inl (.inr z))]; exact e⟩
      refine ⟨acc, dk.toK, ek, hA6', by rw [repD_len rA5]; exact Nat.lt_of_le_of_lt hl (by have := bigL hsz; omega), putK acc dk.toK v2, putKV accD dk y2, d3.plusW hD1, ?_, upd_same, (rA5.put dk r10').mono up, ?_, k10⟩
      · intro b ob nb nf e
        rw [upd_ne nb]
        exact d4 b ob nf (d2 b ob nf (lA b ob nb nf e))
      · have := putKV_len accD dk y2
        omega
    | false =>
      rw [if_neg Bool.false_ne_true]
      exact ⟨acc, accD, b1, lA, hA4, rA4, Nat.le_succ_of_le hl, k8.2 rfl⟩
  · rw [← hlen] at w' hl
    have ob := hback H' ⟨o'.toOk0.minus, o3.xo⟩
    refine q D H' (.od accD) ob ?_ hD0 ⟨D, acc, rfl, hA, rA.mono (hid_ex fun b ob hb e => ⟨fun z => ?_, hid_some.mpr ⟨fun z => ?_, e⟩⟩)⟩ rfl (hd accD hl w')
    · intro b ob h2 h3
      have nb : b ≠ D := fun z => by rw [z, hD0] at h3; cases h3
      exact l' b ob nb h2 (l b ob h2 h3)
    · exact hb (.inl (.inr z))
    · refine hb ?_
      rcases z with z | z
      · exact .inl (.inl (by rw [hP]; exact z))
      · exact .inr z
theorem g_notT (h : G K true ρ ta fun x => ∃ b, TruD x b ∧ R (.bl (!b))) : G K w ρ (tNotT K.F ta) R := fun c σ H o Q q =>
  h c σ H o _ fun v H1 d o1 l1 r1 ⟨b, hb, k⟩ => by
    refine ⟨b, ?_, q _ H1 _ o1 l1 (.bl _) k⟩
    cases hb with
    | non => cases r1; rfl
    | bl b => cases r1; rfl
    | int i => cases r1; rfl
    | str s h =>
      cases r1
      refine ⟨by rw [S_len]; exact big h, ?_⟩
      rw [S_len]
      cases s with
      | nil => rfl
      | cons a s =>
        simp [bne]
        omega
    | tup ds =>
      cases r1 with
      | @tup a xs _ ha rl =>
      refine .inr (.inl ⟨xs, ex_t vw_le ha, ?_⟩)
      cases rl <;> rfl
    | lst ds =>
      cases r1 with
      | @lst a xs _ ha rl =>
      refine .inl ⟨xs, .inl (.inl (vw_le a _ ha)), ?_⟩
      cases rl <;> rfl
    | dk ds =>
      cases r1 with
      | @dk a xs _ ha rl =>
      refine .inr (.inr ⟨xs, vw_le a _ ha, ?_⟩)
      cases rl <;> rfl

/-! ### chains -/
end
end BV

end

section
set_option maxHeartbeats 4000000
/-! a list comprehension over the keys of an own dict, which is locked meanwhile -/
namespace BV
open PySem PySem.Spec L2
def keyDat : DKey → Dat
  | .i n => .int n
  | .s w => .str w
theorem keyDat_rep {F : PySem.W.Frag} {B : Hp} (k : DKey) : Rep F B (kV k.toK) (keyDat k) := by
  cases k with
  | i n => exact .int n
  | s w => exact .str w
theorem repD_get {F : PySem.W.Frag} {B : Hp} : ∀ {xs : List (Key × V)} {kvs : List (DKey × Dat)} {i : Nat} {k : Key} {v : V}, RepD F B xs kvs → xs[i]? = some (k, v) → ∃ dk d, kvs[i]? = some (dk, d) ∧ k = dk.toK
  | _, _, 0, _, _, .cons _ _, e => by cases e; exact ⟨_, _, rfl, rfl⟩
  | _, _, i + 1, _, _, .cons _ t, e => by
    obtain ⟨dk, d, h1, h2⟩ := repD_get t (i := i) e
    exact ⟨dk, d, h1, h2⟩
section
variable {K : KB} {w w1 : Bool} {ρ : LS} {ta tb td : TE} {R : Dat → Prop} {RI : List Dat → Prop}
theorem gi_keys (h : G K w ρ td fun d => ∃ kvs, d = .fk kvs ∧ RI (kvs.map fun p => keyDat p.1)) : GI K w ρ (iKeys td) RI := fun c σ H o RK q =>
  h c σ H o _ fun v H2 d o2 l r ⟨kvs, e, k⟩ => by
    subst e
    cases r with
    | @fk a ob xs _ ha rd =>
    refine ⟨a, ob, rfl, .inl ⟨xs, vw_le a _ ha, q _ H2 _ _ _ (kvs.map fun p => keyDat p.1) o2 l (walk_keys (kvs := xs)) (by rw [List.length_map, repD_len rd]) (fun H3 e => e a _ ha) (fun i H3 x H' c' ρ' σ' hi o3 e y => ?_) k⟩⟩
    obtain ⟨y1, k1, v1, y2, y3⟩ := y
    subst y1
    obtain ⟨dk, d1, g1, g2⟩ := repD_get rd y2
    refine ⟨keyDat dk, by rw [List.getElem?_map, g1]; rfl, o3, Ex.refl _, ?_⟩
    rw [y3, g2]
    exact keyDat_rep dk
mutual
theorem flat_tr {F : PySem.W.Frag} {B B' : Hp} (h : ∀ t xs, SqT F B t xs → SqT F B' t xs) : ∀ (d : Dat) {v : V}, flat d = true → Rep F B v d → Rep F B' v d
  | .non, _, _, h => by cases h; exact .non
  | .bl _, _, _, h => by cases h; exact .bl _
  | .int _, _, _, h => by cases h; exact .int _
  | .str _, _, _, h => by cases h; exact .str _
  | .tup ds, _, hf, h0 => by
    cases h0 with
    | tup s r => exact .tup (h _ _ s) (flat_trL h ds hf r)
  | .lst _, _, hf, _ => by cases hf
  | .scr _, _, hf, _ => by cases hf
  | .dk _, _, hf, _ => by cases hf
  | .dt _, _, hf, _ => by cases hf
  | .fk _, _, hf, _ => by cases hf
  | .obj _ _, _, hf, _ => by cases hf
  | .oth _, _, hf, _ => by cases hf
theorem flat_trL {F : PySem.W.Frag} {B B' : Hp} (h : ∀ t xs, SqT F B t xs → SqT F B' t xs) : ∀ (ds : List Dat) {vs : List V}, flatL ds = true → RepL F B vs ds → RepL F B' vs ds
  | [], _, _, h => by cases h; exact .nil
  | d :: ds, _, hf, h0 => by
    cases h0 with
    | cons h1 h2 =>
      have hf' : (flat d && flatL ds) = true := hf
      rw [Bool.and_eq_true] at hf'
      exact .cons (flat_tr h d hf'.1 h1) (flat_trL h ds hf'.2 h2)
end
theorem flatL_iff : ∀ {ds : List Dat}, flatL ds = true ↔ ∀ d ∈ ds, flat d = true
  | [] => ⟨fun _ d h => (by cases h), fun _ => rfl⟩
  | d :: ds => by
    show (flat d && flatL ds) = true ↔ _
    rw [Bool.and_eq_true, flatL_iff (ds := ds)]
    simp
/-- a reading of an own dict while it is locked; its answer is a new list without lists in it -/
theorem g_lockD {i : Nat} {kvs : List (DKey × Dat)} {te : TE} (he : ρ[i]? = some (.od kvs)) (h : G K false (ρ.set i (.d (.fk kvs))) te fun y => ∃ ds, y = .lst ds ∧ flatL ds = true ∧ R (.lst ds)) : G K w ρ (tLockE te) R := fun c σ H o Q q => by
  obtain ⟨v, ev, a, xs, rfl, ha, rd⟩ := o.get he
  have hpa : Pr ρ σ a := ⟨i, _, _, he, ev, rfl⟩
  refine ⟨a, .dK xs, ha, trivial, fun od => ?_⟩
  have hil : i < ρ.length := (List.getElem?_eq_some_iff.mp he).1
  have other : ∀ (j : Nat) s v', j ≠ i → ρ[j]? = some s → σ[j]? = some v' → pa s v' ≠ some a := fun j s v' hj h1 h2 h3 => hj (o.inj j i s v' _ _ a h1 h2 h3 he ev rfl)
  have pr1 : ∀ b, Pr (ρ.set i (.d (.fk kvs))) σ b → Pr ρ σ b ∧ b ≠ a := fun b ⟨j, s, v', h1, h2, h3⟩ => by
    by_cases hj : i = j
    · subst hj
      rw [List.getElem?_set_self hil] at h1
      cases h1
      simp [pa] at h3
    · rw [List.getElem?_set_ne hj] at h1
      exact ⟨⟨j, s, v', h1, h2, h3⟩, fun e => by rw [e] at h3; exact other j s v' (Ne.symm hj) h1 h2 h3⟩
  have pr2 : ∀ b, Pr ρ σ b → b ≠ a → Pr (ρ.set i (.d (.fk kvs))) σ b := fun b ⟨j, s, v', h1, h2, h3⟩ hb => by
    by_cases hj : i = j
    · subst hj
      rw [he] at h1
      cases h1
      rw [ev] at h2
      cases h2
      cases h3
      exact absurd rfl hb
    · exact ⟨j, s, v', by rw [List.getElem?_set_ne hj]; exact h1, h2, h3⟩
  have nPa : ¬ c.P a := o.np a hpa
  have e1 : Ex (sv c ρ σ H) (sv c (ρ.set i (.d (.fk kvs))) σ (upd H a (.frz od (.dK xs)))) := hid_ex fun b ob hb e => by
    have hba : b ≠ a := fun z => hb (.inr (by rw [if_neg Bool.false_ne_true, z]; exact hpa))
    refine ⟨fun z => hb ?_, by rw [upd_ne hba]; exact e⟩
    rcases z with z | z
    · exact .inl z
    · rw [if_neg Bool.false_ne_true] at z
      exact .inr (by rw [if_neg Bool.false_ne_true]; exact (pr1 b z).1)
  have o1 : Ok K c (ρ.set i (.d (.fk kvs))) σ (upd H a (.frz od (.dK xs))) := by
    refine ⟨⟨by rw [List.length_set]; exact o.len, fun j s v' h1 h2 => ?_, fun j k s v' s' v2 b h1 h2 h3 h4 h5 h6 => ?_, fun b hb => o.np b (pr1 b hb).1, fun b ob h1 h2 => ?_, fun b hb => o.xs b (pr1 b hb).1, fun b hb => ?_⟩, o.xo⟩
    · by_cases hj : i = j
      · subst hj
        rw [List.getElem?_set_self hil] at h1
        cases h1
        rw [ev] at h2
        cases h2
        refine ⟨_, rfl, .fk (hid_some.mpr ⟨fun z => ?_, upd_same⟩) (rd.mono e1)⟩
        rcases z with z | z
        · exact nPa z
        · rw [if_neg Bool.false_ne_true] at z
          exact (pr1 a z).2 rfl
      · rw [List.getElem?_set_ne hj] at h1
        exact (o.sl j s v' h1 h2).mono e1 fun b ob hb hh => by rw [upd_ne fun z => other j s v' (Ne.symm hj) h1 h2 (by rw [← z]; exact hb)]; exact hh
    · by_cases hj : i = j
      · subst hj
        rw [List.getElem?_set_self hil] at h1
        cases h1
        simp [pa] at h3
      · by_cases hk : i = k
        · subst hk
          rw [List.getElem?_set_self hil] at h4
          cases h4
          simp [pa] at h6
        · rw [List.getElem?_set_ne hj] at h1
          rw [List.getElem?_set_ne hk] at h4
          exact o.inj j k s v' s' v2 b h1 h2 h3 h4 h5 h6
    · have hba : b ≠ a := fun z => by
        rw [z] at h1 h2
        rcases o.xs a hpa with x | x
        · exact h1 x
        · rw [x] at h2; cases h2
      rw [upd_ne hba]
      exact o.fr b ob h1 h2
    · by_cases hba : b = a
      · rw [hba]; exact ⟨_, upd_same⟩
      · obtain ⟨ob, e⟩ := o.pt b hb
        exact ⟨ob, by rw [upd_ne hba]; exact e⟩
  refine h c σ (upd H a (.frz od (.dK xs))) o1 _ fun v H2 d o2 l2 r2 ⟨ds, ed, hf, k⟩ => ?_
  subst ed
  have nfa : ¬ Fr (ρ.set i (.d (.fk kvs))) σ a := fun z => (pr1 a z.pr).2 rfl
  have h2a : H2 a = some (.frz od (.dK xs)) := l2 a _ nfa upd_same
  refine ⟨h2a, ?_⟩
  have fr1 : ∀ b, Fr (ρ.set i (.d (.fk kvs))) σ b → Fr ρ σ b := fun b ⟨j, s, v', h1, h2, h3⟩ => by
    by_cases hj : i = j
    · subst hj
      rw [List.getElem?_set_self hil] at h1
      cases h1
      simp [fa] at h3
    · rw [List.getElem?_set_ne hj] at h1
      exact ⟨j, s, v', h1, h2, h3⟩
  have lL : Le c ρ σ H (upd H2 a (.dK xs)) := fun b ob nf e => by
    by_cases hba : b = a
    · rw [hba, upd_same]
      rw [hba, ha] at e
      exact e
    · rw [upd_ne hba]
      exact l2 b ob (fun z => nf (fr1 b z)) (by rw [upd_ne hba]; exact e)
  have oF : Ok K c ρ σ (upd H2 a (.dK xs)) := by
    refine o.grow lL (fun j s v' h1 h2 hs => ?_) (fun b ob h1 h2 => ?_) fun b hb => ?_
    · have hj : j ≠ i := fun z => by
        rw [z, he] at h1
        cases h1
        simp [fa] at hs
      cases s with
      | src b =>
        obtain ⟨g1, g2⟩ := o2.sl j (.src b) v' (by rw [List.getElem?_set_ne (Ne.symm hj)]; exact h1) h2
        obtain ⟨x, y, z, g3⟩ := g2
        refine ⟨g1, x, y, z, ?_⟩
        rw [upd_ne fun e => other j (.src b) v' hj h1 h2 (by rw [← e]; rfl)]
        exact g3
      | _ => simp [fa] at hs
    · have hba : b ≠ a := fun z => by
        rw [z] at h1 h2
        rcases o.xs a hpa with x | x
        · exact h1 x
        · rw [x] at h2; cases h2
      rw [upd_ne hba]
      exact o2.fr b ob h1 h2
    · by_cases hba : b = a
      · rw [hba]; exact ⟨_, upd_same⟩
      · obtain ⟨ob, e⟩ := o2.pt b hb
        exact ⟨ob, by rw [upd_ne hba]; exact e⟩
  have vis : ∀ b ob, vw c false (ρ.set i (.d (.fk kvs))) σ H2 b = some ob → b ≠ a → vw c w ρ σ (upd H2 a (.dK xs)) b = some ob := fun b ob e hba => by
    obtain ⟨h1, h2⟩ := hid_some.mp e
    refine hid_some.mpr ⟨fun z => h1 ?_, by rw [upd_ne hba]; exact h2⟩
    rcases z with z | z
    · exact .inl z
    · refine .inr ?_
      rw [if_neg Bool.false_ne_true]
      refine pr2 b ?_ hba
      cases w with
      | true => rw [if_pos rfl] at z; exact z.pr
      | false => rw [if_neg Bool.false_ne_true] at z; exact z
  cases r2 with
  | @lst L ys _ hL rl =>
  have hLa : L ≠ a := fun z => by
    have := vw_le L _ hL
    rw [z, h2a] at this
    cases this
  refine q _ _ _ oF lL (.lst (vis L _ hL hLa) (flat_trL (fun t zs hs => ?_) ds hf rl)) k
  rcases hs with (hs | ⟨ob, hs⟩) | hs
  · refine .inl (.inl (vis t _ hs fun z => ?_))
    have := vw_le t _ hs
    rw [z, h2a] at this
    cases this
  · refine .inl (.inr ⟨ob, vis t _ hs fun z => ?_⟩)
    have := vw_le t _ hs
    rw [z, h2a] at this
    cases this
  · exact .inr hs
end
end BV

end

section
set_option maxHeartbeats 4000000
/-! t[::-1] of a tuple; membership in a locked dict -/
namespace BV
open PySem PySem.Spec L2 PyProof.Rows HT
theorem adjust_rev (n : Nat) : Builtin.Slice.sliceAdjust none none (-1) (n : Int) = ((n : Int) - 1, -1) := by
  unfold Builtin.Slice.sliceAdjust
  rfl
theorem places_rev (n : Nat) : Builtin.Slice.slicePlaces ((n : Int) - 1) (-1) (-1) = n := by
  unfold Builtin.Slice.slicePlaces
  have h1 : ¬ ((-1 : Int) > 0) := by omega
  simp only [h1, if_false]
  split
  · rw [show (-(-1) : Int) = 1 by decide, Int.ediv_one]
    omega
  · omega
theorem pick_rev (xs : Array Value) : ((List.range xs.size).filterMap fun (m : Nat) => xs[(((xs.size : Int) - 1) + (m : Int) * (-1)).toNat]?).toArray = xs.toList.reverse.toArray := by
  have e : ((List.range xs.size).filterMap fun (m : Nat) => xs[(((xs.size : Int) - 1) + (m : Int) * (-1)).toNat]?) = ((List.range xs.size).map fun k => xs.size - 1 - k).filterMap (xs[·]?) := by
    rw [List.filterMap_map]
    have key : ∀ ms : List Nat, (∀ m ∈ ms, m < xs.size) → ms.filterMap (fun (m : Nat) => xs[(((xs.size : Int) - 1) + (m : Int) * (-1)).toNat]?) = ms.filterMap ((xs[·]?) ∘ fun k => xs.size - 1 - k) := by
      intro ms
      induction ms with
      | nil => intro _; rfl
      | cons m ms ih =>
        intro h
        have hm := h m List.mem_cons_self
        have e1 : (((xs.size : Int) - 1) + (m : Int) * (-1)).toNat = xs.size - 1 - m := by omega
        rw [List.filterMap_cons, List.filterMap_cons, ih fun k hk => h k (List.mem_cons_of_mem _ hk), e1]
        rfl
    exact key _ fun m hm => List.mem_range.mp hm
  rw [e, PySem.W.krv_range, List.filterMap_reverse, PySem.W.krv_all]
section
variable {prog : Program} {w : World} {A : Around} {E : Value → Shared → Prop} {s : Shared}
theorem sliceApplied_rev {sl : Addr} {vl vu vs : Value} {n : Nat} {Q : Int × Int × Nat → Shared → Prop} (hs : s.heap.IsSliceOf sl vl vu vs) (pl : IsPart vl none) (pu : IsPart vu none) (ps : IsPart vs (some (-1)))
    (h : Q ((n : Int) - 1, -1, n) s) : wpAny (model prog w) A (Builtin.Slice.sliceApplied (.ref sl) (pure (n : Int))) Q E s := by
  obtain ⟨os, hos, hcs, hds⟩ := id hs
  unfold Builtin.Slice.sliceApplied Builtin.Slice.sliceFields
  refine wpAny_bind (wpAny_bind (wpAny_field hos hds (x := vl) rfl (wpAny_bind (wpAny_field hos hds (x := vu) rfl (wpAny_bind (wpAny_field hos hds (x := vs) rfl (wpAny_pure ?_)))))))
  refine wpAny_bind (slicePart_ ps ?_)
  show wpAny _ _ (if ((-1 : Int) == 0) = true then _ else _) _ _ s
  rw [if_neg (by decide)]
  refine wpAny_bind (slicePart_ pl (wpAny_bind (slicePart_ pu (wpAny_bind (wpAny_pure ?_)))))
  show wpAny _ _ (match Builtin.Slice.sliceAdjust none none (-1) (n : Int) with | (lo, hi) => pure (lo, (-1 : Int), Builtin.Slice.slicePlaces lo hi (-1))) _ _ s
  rw [adjust_rev]
  show wpAny _ _ (pure ((n : Int) - 1, (-1 : Int), Builtin.Slice.slicePlaces ((n : Int) - 1) (-1) (-1))) _ _ s
  rw [places_rev]
  exact wpAny_pure h
theorem getItem_tuple_rev {t sl : Addr} {items : Array Value} {vl vu vs : Value} {Q : Value → Shared → Prop} (ht : IsTup s.heap t items) (hs : s.heap.IsSliceOf sl vl vu vs) (pl : IsPart vl none) (pu : IsPart vu none) (ps : IsPart vs (some (-1)))
    (h : Q (.ref s.heap.objs.size) { s with heap := s.heap.push { cls := .type "tuple", data := .seq items.toList.reverse.toArray } })
    (hsz : items.size ≤ sizeLine) : wpAny (model prog w) A (getItem (.ref t) (.ref sl)) Q E s := by
  have htake : sizeOk (.seq items.toList.reverse.toArray) := by
    show items.toList.reverse.toArray.size ≤ sizeLine
    rw [List.size_toArray, List.length_reverse, Array.length_toList]
    exact hsz
  obtain ⟨os, hos, hcs, hds⟩ := id hs
  have hTs : s.TypeIs (.ref sl) "slice" := ⟨os, hos, hcs⟩
  unfold getItem
  try with_reducible refine wpAny_holding ?_
  first | refine wpAny_bind (wpAny_pure ?_) | skip
  refine wpAny_bind (wpAny_sequenceKey ht.typeIs (by decide) ?_)
  refine wpAny_bind (wpAny_callSpecial?_slot (name := Str.ofString "__getitem__") ht.typeIs PyProof.Rows.slot_tuple_getitem
    (wpAny_call_entry PyProof.Rows.slot_tuple_getitem ht.typeIs entry_tuple_getitem ?_ (args_tuple_getitem _ _)))
  show wpAny _ _ (Builtin.Tuple.tupleItemsOf (.ref t) >>= _) _ _ s
  refine wpAny_bind (tupleItemsOf_ ht ?_)
  refine wpAny_bind (wpAny_typeOf hTs ?_)
  rw [if_pos (by decide)]
  refine wpAny_bind (sliceApplied_rev hs pl pu ps ?_)
  have hno : ¬ (((((items.size : Int) - 1) == 0) && ((-1 : Int) == 1) && (items.size == items.size)) = true) := by
    intro q
    rw [Bool.and_eq_true, Bool.and_eq_true] at q
    have q1 : ((-1 : Int)) = 1 := eq_of_beq q.1.2
    omega
  show wpAny _ _ (if ((((items.size : Int) - 1) == 0) && ((-1 : Int) == 1) && (items.size == items.size)) = true then _ else _) _ _ s
  rw [if_neg hno, pick_rev]
  first
    | exact wpAny_bind (m := Builtin.Tuple.tupleExact _) (wpAny_newObj_type (wpAny_pure ⟨_, rfl, wpAny_pure h⟩) htake)
    | exact wpAny_bind (m := Builtin.Tuple.tupleExact _) (wpAny_newObj_type (wpAny_bind (wpAny_pure (wpAny_pure ⟨_, rfl, wpAny_pure h⟩))) htake)
    | exact wpAny_bind (wpAny_bind (m := Builtin.Tuple.tupleExact _) (wpAny_newObj_type (wpAny_pure (wpAny_pure ⟨_, rfl, wpAny_pure h⟩)) htake))
    | exact wpAny_bind (wpAny_bind (m := Builtin.Tuple.tupleExact _) (wpAny_newObj_type (wpAny_pure ⟨_, rfl, wpAny_pure h⟩) htake))
end
def tRevT (K : PySem.W.Frag) (te : TE) : TE := fun σ H Q => te σ H fun x H1 => ∃ a xs, x = .ref a ∧ SqT K H1 a xs ∧ ∀ p, H1 p = none → Q (.ref p) (upd H1 p (.tup xs.reverse))
theorem pe_revT {X : Cx} {e : Expr} {te : TE} {k : Nat} {p1 p2 p3 pos : Pos} (he : PE X e te) : PE X (.Subscript e (.Slice none none (some (.UnaryOp .USub (.Constant (.int 1) k p1) p2)) p3) pos) (tRevT X.K te) := by
  refine ⟨fun pins s σ H Q I h => ?_⟩
  refine Subscript_ (thn (he.run pins s σ H _ I h) fun v s1 ⟨x, H1, I1, r1, q1⟩ => ?_)
  obtain ⟨a, xs, ex, hx, q⟩ := q1
  subst ex
  cases r1
  have hst : PO X (some (.UnaryOp .USub (.Constant (.int 1) k p1) p2)) (tPart (tUn (rU fun i => .int (-i)) (tC (.int 1)))) := po_some (pe_un un_neg pe_int)
  refine wpAny_Slice (thn (po_none.run pins s1 σ H1 (fun o H2 => o = none ∧ H2 = H1) I1 ⟨rfl, rfl⟩) fun vl s2 ⟨l, H2, I2, pl, el, e2⟩ => ?_)
  subst el e2
  refine thn (po_none.run pins s2 σ H2 (fun o H3 => o = none ∧ H3 = H2) I2 ⟨rfl, rfl⟩) fun vu s3 ⟨u, H3, I3, pu, eu, e3⟩ => ?_
  subst eu e3
  refine thn (hst.run pins s3 σ H3 (fun o H4 => o = some (-1) ∧ H4 = H3) I3 ⟨1, rfl, -1, rfl, rfl, rfl⟩) fun vs s4 ⟨o, H4, I4, ps, eo, e4⟩ => ?_
  subst eo e4
  have I5 : Inv X pins σ H4 { s4 with heap := s4.heap.push { cls := .type "slice", data := .fields #[vl, vu, vs] } } := I4.kept (t' := s4.toks) fun b ob q => Heap.get?_push_of_some _ q
  obtain ⟨its, r, ht, hz⟩ := I5.tuple hx
  have hlen := r.length
  show wpAny (model X.prog X.w) X.A (subscriptTail e (.Slice none none (some (.UnaryOp .USub (.Constant (.int 1) k p1) p2)) p3) (.ref a) (.ref s4.heap.objs.size)) (EP X pins σ Q) X.xe { s4 with heap := s4.heap.push { cls := .type "slice", data := .fields #[vl, vu, vs] } }
  refine tail_any (ops := [.ref a, .ref s4.heap.objs.size]) ht.typeIs (PyProof.Rows.slot_tuple_getitem.lookup) ?_ (by with_unfolding_all rfl)
  refine getItem_tuple_rev ht (Heap.IsSliceOf.new _ vl vu vs) pl pu ps ?_ (by rw [List.size_toArray]; omega)
  refine ⟨.ref _, _, I5.laid (t' := s4.toks) (o := .tup xs.reverse) (fun b ob q => Heap.get?_push_of_some _ q) (Nat.le_refl _) ?_, rfl, q _ (I5.hok.fresh (Nat.le_refl _))⟩
  exact ⟨by rw [List.length_reverse]; exact hz, _, r.reverse, IsTup.new _ _⟩
theorem repL_rev {F : PySem.W.Frag} {B : Hp} : ∀ {xs : List V} {ds : List Dat}, RepL F B xs ds → RepL F B xs.reverse ds.reverse
  | _, _, .nil => .nil
  | _, _, .cons h t => by
    rw [List.reverse_cons, List.reverse_cons]
    exact (repL_rev t).append (.one h)
section
variable {K : KB} {w w1 : Bool} {ρ : LS} {te td ty : TE} {R : Dat → Prop}
theorem g_revT (h : G K w ρ te fun x => ∃ ds, x = .tup ds ∧ R (.tup ds.reverse)) : G K w ρ (tRevT K.F te) R := fun c σ H o Q q =>
  h c σ H o _ fun v H2 d o2 l r ⟨ds, e, k⟩ => by
    subst e
    cases r with
    | @tup a xs _ ha rl =>
    exact ⟨a, xs, rfl, ex_t vw_le ha, fun p hp => q _ _ _ (o2.ex (Ex.new hp)) (l.trans (Ex.new hp).le) (.tup (.inl (.inl (o2.vw_new hp))) ((repL_rev rl).mono (Le.vw (Ex.new hp).le))) k⟩
theorem g_dinF (h : G K true ρ ty fun y => ∃ k, KeyD y k ∧ G K true ρ td fun x => ∃ kvs, x = .fk kvs ∧ R (.bl (valD kvs k).isSome)) : G K w ρ (tDIn ty td) R := fun c σ H o Q q =>
  h c σ H o _ fun y H1 d o1 l1 r1 ⟨k, hk, h1⟩ => h1 c σ H1 o1 _ fun v H2 d o2 l2 r2 ⟨kvs, e, kr⟩ => by
    subst e
    cases r2 with
    | @fk a ob xs _ ha rk =>
    refine ⟨a, _, rfl, .inl ⟨xs, k.toK, .inr ⟨ob, vw_le a _ ha⟩, hk.rep r1, rfl⟩, ?_⟩
    rcases rk.val k with ⟨e1, e2⟩ | ⟨v, d, e1, e2, r⟩
    · rw [e1]; rw [e2] at kr
      exact q _ H2 _ o2 (l1.trans l2) (.bl _) kr
    · rw [e1]; rw [e2] at kr
      exact q _ H2 _ o2 (l1.trans l2) (.bl _) kr
theorem g_dinV {i : Nat} {kvs : List (DKey × Dat)} (he : ρ[i]? = some (.d (.fk kvs))) (h : G K true ρ ty fun y => ∃ k, KeyD y k ∧ R (.bl (valD kvs k).isSome)) : G K w ρ (tDIn ty (tVar i)) R := by
  refine g_dinF fun c σ H o Q q => h c σ H o Q fun u H2 d o2 l2 r2 ⟨k, hk, hr⟩ => q u H2 d o2 l2 r2 ⟨k, hk, ?_⟩
  exact g_var he ⟨kvs, rfl, hr⟩
end
end BV

end

section
set_option maxHeartbeats 4000000
/-! bool(o) by o's own __bool__ -/
namespace BV
open PySem PySem.Spec L2
open PySem.W (BoolBack)
theorem Room.in2 {k : Nat} {A : Around} (r : Room (k + 1) A) : Room k A.in1.in1 :=
  ⟨r.hd, by have := r.dp; show A.depth + 3 * k + 5 < _; omega, by have := r.un; show A.units + 1 + 1 + 16 * k + 200 < _; omega⟩
section
variable {prog : Program} {w : World} {A : Around} {E : Value → Shared → Prop} {s : Shared} {K : PySem.W.Frag} {x C f : Addr} {ox : Obj} {od : Option Obj}
theorem call_bool_own {Q : Value → Shared → Prop} (X : K.In s.heap) {L : Addr} {h₀ : Heap} {m : Str → Option Value} (F : PyProof.Rows.Fr h₀ L s.heap m) (X₀ : K.In h₀) (I : PySem.W.InstAt s.heap x ox C od) (hs : PySem.W.findIn K (.ref C) "__bool__" = some (some (.ref f))) (hf : PySem.W.isFn K (.ref f) = true)
    (h : wpAny (model prog w) A.in1.in1 (call (.ref f) [.ref x]) (BoolBack fun b s' => Q (.bool b) s') E s) : wpAny (model prog w) A (call (.type "bool") [.ref x]) Q E s := by
  refine callType_newIn (S := fun A R s => wpAny (model prog w) A.in1 (truthy (.ref x)) (fun b s' => R (.ok (.ret (.bool b))) s') (fun e s' => R (.error e) s') s) PySem.F.called_bool PySem.F.newNe_bool (PySem.F.typeCall_bool_1 _) (PySem.F.newCall_bool_1 _) (fun obj => PySem.F.args_object_init_2 obj _) PySem.F.entry_bool_new ?_ ?_
  · refine MeetsIn.of_wp fun A R s h => ?_
    obtain ⟨hp, g, d, tk, os⟩ := s
    have f1 := PySem.F.conv_sub_bool
    repeat (any_goals (first | assumption | (refine wpAny_mono h (fun b s' hr => ?_) fun _ _ z => z) | wp_step))
    all_goals first | exact ⟨_, rfl, hr⟩ | exact wpAny_pure ⟨_, rfl, hr⟩ | skip
    all_goals trace_state
  · show wpAny _ A.in1.in1 _ _ _ _
    refine PySem.W.truthy_K F X₀ I hs hf (wpAny_mono h (fun r s' hr => ?_) fun _ _ z => z)
    cases r <;> first | exact hr.elim | skip
    exact ⟨rfl, hr⟩
end
/-- bool(x) by x's own __bool__ -/
def rBoolO (C : Addr) (sp : Sp) (E : XK) : List V → Hp → VK → Prop := fun xs H Q => ∃ a dx fs, xs = [.ref a] ∧ H a = some (.ins C dx fs) ∧ sp [.ref a] H (fun v H2 => ∃ b, v = .bl b ∧ Q (.bl b) H2) E
section
variable {X : Cx} {CX : CXT} {k : Nat} {C g : Addr} {sp : Sp} {E : XK}
theorem call_boolO (M : Spm X.K C "__bool__" g) (F : FnR X.prog X.w X.K X.mg X.base CX k g sp) (hr : Room (k + 1) X.A) (hx : Passes CX X E) : CallR X (.type "bool") (rBoolO C sp E) := by
  intro pins s σ H xs us Q I r h
  obtain ⟨a, dx, fs, ex, ea, q⟩ := h
  subst ex
  obtain rfl := Vals.ref1 r
  obtain ⟨mA, O, _⟩ := ins_get I.hok ea
  obtain ⟨od, J, _⟩ := O.look
  obtain ⟨m, hF⟩ := I.fr
  refine call_bool_own (I.ok.mod.kin.keeps hF.keep) hF I.ok.mod.kin J M.at_ M.fn (wpAny_call (codeAny_mono (F X.A.in1.in1 X.stack s H [.ref a] [.ref a] _ E (Room.in2 hr) I.env0.in1.in1 (.cons rfl .nil) q) fun r s' hq => ?_))
  cases r with
  | error e => exact hx pins σ H s e s' I hq
  | ok fl =>
    cases fl with
    | ret u =>
      obtain ⟨v, H2, I2, rv, b, ev, q2⟩ := I.after hq
      subst ev
      cases (show u = Value.bool b from rv)
      exact ⟨.bl b, H2, I2, rfl, q2⟩
    | _ => exact False.elim hq
end
section
variable {K : KB} {w w1 : Bool} {ρ : LS} {R : Dat → Prop}
theorem oc_boolO {C : Addr} {S : List Dat → (Dat → Prop) → Prop} {E : XK} {fs : List (Str × Dat)} (h : S [.obj C fs] fun d => ∃ b, d = .bl b ∧ R (.bl b)) : OpC K w1 w ρ (rBoolO C (spF K S) E) [.obj C fs] R := fun c σ H us o r Q q => by
  cases r with
  | cons r1 r0 =>
  cases r0
  cases r1 with
  | @obj a _ dx xs _ ha rf =>
  refine ⟨a, dx, xs, rfl, vw_le a _ ha, _, [.obj C fs], _, o.trk (w := w1), .cons (.obj ha rf) .nil, h, fun v H' d e rv rd => ?_⟩
  obtain ⟨b, ed, rb⟩ := rd
  subst ed
  cases rv
  exact ⟨b, rfl, q _ H' _ (o.ex e) e.le (.bl b) rb⟩
end
end BV

end

section
set_option maxHeartbeats 4000000
/-! f(g(..), ..): the source that f wants is made by a call within the arguments -/
namespace BV
open PySem PySem.Spec L2
section
variable {K : KB} {w : Bool} {ρ : LS} {R : Dat → Prop} {t1 t : TA}
theorem g_callSN {S1 : List Dat → Prop} {S : List Dat → (Dat → Prop) → Prop} {E1 E : XK} (h : GA K w ρ t1 fun ds => S1 ds ∧ GA K w ρ t fun ds => S ds R) : G K w ρ (tCall (spS K S) [] E (tCons (tCall (spN K S1) [] E1 t1) t)) R := fun c σ H o Q q => by
  refine h c σ H o _ fun vs H1 ds o1 l1 r1 k => ?_
  show spN K S1 (vs ++ []) H1 _ E1
  rw [List.append_nil]
  refine ⟨_, ds, o1.trk, r1, k.1, fun a H' e n hs => ?_⟩
  obtain ⟨ob, hob⟩ : ∃ ob, H' a = some ob := by obtain ⟨x, y, z, g⟩ := hs; exact ⟨_, g⟩
  have ex2 : Ex (upd H1 a ob) H' := fun b ob' hb => by
    by_cases z : b = a
    · rw [z, upd_same] at hb; cases hb; rw [z]; exact hob
    · rw [upd_ne z] at hb; exact e b ob' hb
  have k2 : Ok K (c.plus a) ρ σ H' := (o1.plus n (o := ob)).ex ex2
  refine k.2 (c.plus a) σ H' k2 _ fun us H2 es o2 l2 r2 k3 => ?_
  show spS K S ((.ref a :: us) ++ []) H2 Q E
  rw [List.append_nil]
  have na : ¬ Fr ρ σ a := fun z => by
    obtain ⟨ob', e', _⟩ := o1.tr z.pr
    rw [n] at e'; cases e'
  have hs2 : SrcAt H2 a := by obtain ⟨x, y, z, g⟩ := hs; exact ⟨x, y, z, l2 a _ na g⟩
  refine ⟨fun b => ((c.plus a).P b ∨ (if w = true then Fr ρ σ b else Pr ρ σ b)) ∧ b ≠ a, a, us, es, R, rfl, hs2, fun z => z.2 rfl, fun b hb => o2.trk (w := w) b hb.1, r2.mono (hid_ex fun b ob hb e => ⟨fun z => ?_, e⟩), k3, fun v H3 d hk hs' rv rd => ?_⟩
  · rcases z with z | z
    · exact hb z.1
    · exact hb (.inl (.inr z))
  · have l3 : Le c ρ σ H1 H3 := fun b ob nf e1 => hk b ob (fun z => by rw [z, n] at e1; cases e1) (l2 b ob nf (e b ob e1))
    refine q v H3 d (o1.grow l3 (fun i' s' v' h1 h2 hf => ?_) (fun b ob h1 h2 => ?_) fun b hb => ?_) (l1.trans l3) (rv.mono (hid_ex fun b ob hb e => ⟨fun z => hb ?_, e⟩)) rd
    · cases s' with
      | src b =>
        obtain ⟨rfl, x, y, z, g⟩ := o2.sl i' _ v' h1 h2
        have hb : b ≠ a := fun z => by
          obtain ⟨_, x, y, z2, g1⟩ := o1.sl i' _ _ h1 h2
          rw [z, n] at g1; cases g1
        exact ⟨rfl, x, y, z, hk b _ hb g⟩
      | _ => exact absurd hf (by simp [fa])
    · have hb : b ≠ a := fun z => by
        have := o1.fr b ob h1 h2
        rw [z, n] at this; cases this
      exact hk b ob hb (o2.fr b ob h1 h2)
    · obtain ⟨ob, e1⟩ := o2.pt b (.inl hb)
      have hba : b ≠ a := fun z => by
        obtain ⟨ob', e'⟩ := o1.pt b hb
        rw [z, n] at e'; cases e'
      exact ⟨ob, hk b ob hba e1⟩
    · by_cases ea : b = a
      · exact .inr ea
      · refine .inl ⟨?_, ea⟩
        rcases z with z | z
        · exact .inl (.inl z)
        · exact .inr z
end
end BV

end

section
set_option maxHeartbeats 4000000
/-! sorted(d, key=f): the keys of a dict, f an own function without exceptions that gives (whole number, text) -/
namespace BV
open PySem PySem.Spec L2 PyProof.Rows
open PySem.W (KdlSrc kdl_extend keyH_end KeepsBut EachIs AllAlike Sortable dataLe dataLt alike SortsAt KeyedOut keyedOut_each)
section
variable {prog : Program} {w : World} {A : Around} {E : Value → Shared → Prop} {s : Shared} {T : String} {r d : Addr} {n : Nat} {P : Nat → Value → Prop} {OK : Heap → Prop}
/-- what a source yields, gathered into a list -/
theorem collect_kdl {Q : List Value → Shared → Prop} (K : KdlSrc prog w T r d n P OK) (hh : A.handled = none) (hok : OK s.heap) (hn : n ≤ sizeLine)
    (hQ : ∀ h' tk acc, s.heap.objs.size ≤ h'.objs.size → (∀ b o, s.heap.get? b = some o → h'.get? b = some o) → ItemsOf P acc n → Q acc.toList { s with heap := h', toks := tk }) :
    wpAny (model prog w) A (collect (.ref r)) Q E s := by
  have lt := K.there s.heap hok
  unfold collect
  refine wpAny_bind (wpAny_runValue (codeAny_builtin F.entry_proto_collect ?_))
  rw [Around.under_plainId F.plain_proto_collect _]
  show wpAny _ A.in1 (newList [] >>= fun l => again (.builtin "list.__iadd__" ⟨[l, .ref r], []⟩)) _ _ s
  refine wpAny_bind (wpAny_newObj_type ?_)
  refine wpAny_pure ⟨plainId_quiet F.plain_list_iadd _, codeAny_builtin F.entry_list_iadd ?_⟩
  rw [Around.under_plainId F.plain_list_iadd _]
  show wpAny _ A.in1 (Builtin.List.listExtendWith (.ref s.heap.objs.size) (.ref r) (.ref s.heap.objs.size)) _ _ _
  have old : ∀ b o, s.heap.get? b = some o → (s.heap.push { cls := .type "list", data := .seq ([] : List Value).toArray }).get? b = some o := fun b o e => Heap.get?_push_of_some _ e
  refine wpAny_mono (kdl_extend (A := A) (s := { s with heap := s.heap.push { cls := .type "list", data := .seq ([] : List Value).toArray } }) K hh (K.keep _ _ hok fun b _ o e => old b o e) s.heap.objs.size (Nat.ne_of_gt lt.1) (Nat.ne_of_gt lt.2) (.ref s.heap.objs.size) 0 (Heap.get?_push_size _ rfl)
    (R := fun rr s' => rr = .ok (.ret (.ref s.heap.objs.size)) ∧ ∃ (h' : Heap) (tk : Nat) (acc : Array Value) (c' : Nat), s' = { s with heap := h', toks := tk } ∧
      (∀ b o, s.heap.get? b = some o → h'.get? b = some o) ∧ h'.get? s.heap.objs.size = some { cls := .type "list", dict := none, data := .seq acc c', slots := #[] } ∧ ItemsOf P acc n)
    (fun h' tk acc c' hk e hi => ⟨rfl, h', tk, acc, c', rfl, fun b o q => hk b o (Nat.ne_of_lt (Heap.lt_size q)) (old b o q), e, hi⟩) hn) (fun fin s' h => ?_) (fun e s' h => ?_)
  · cases fin with
    | done f =>
      obtain ⟨e, h', tk, acc, c', rfl, hk, hS', hi⟩ := h
      cases e
      show wpAny _ A (load s.heap.objs.size >>= _) _ _ _
      exact wpAny_bind (wpAny_load hS' (wpAny_pure (hQ h' tk acc (Nat.le_of_lt (Heap.lt_size hS')) hk hi)))
    | again c' =>
      refine ⟨h.1, codeAny_mono h.2 fun rr s'' hr' => ?_⟩
      obtain ⟨rfl, h', tk, acc, c', rfl, hk, hS', hi⟩ := hr'
      show wpAny _ A (load s.heap.objs.size >>= _) _ _ _
      exact wpAny_bind (wpAny_load hS' (wpAny_pure (hQ h' tk acc (Nat.le_of_lt (Heap.lt_size hS')) hk hi)))
  · exact absurd h.1 (by simp)
end
/-! ### what an untracked object of ours leaves as it is -/
theorem Un.off {fs : List Addr} {H H1 H2 : Hp} {h h1 h2 : Heap} (u : Un fs [] H H1 h h1) (hH : ∀ b, h.objs.size ≤ b → H b = none) (e : ∀ b o, b < h.objs.size → h1.get? b = some o → h2.get? b = some o) (eH : ∀ b, b < h.objs.size → H2 b = H1 b) : Un fs [] H H2 h h2 := by
  have lt : ∀ b ob, H b = some ob → b < h.objs.size := fun b ob z => by
    rcases Nat.lt_or_ge b h.objs.size with q | q
    · exact q
    · rw [hH b q] at z; cases z
  refine ⟨fun b o a1 a2 a3 a4 => e b _ (Heap.lt_size a1) (u.keep b o a1 a2 a3 a4), fun b o a1 a2 a3 a4 => ?_, fun b o a1 a2 a3 => ?_, fun b o a1 a2 => ?_, fun b xs z => ?_, fun b o v z => ?_, fun b ps z => ?_⟩
  · obtain ⟨sl, q⟩ := u.slot b o a1 a2 a3 a4
    exact ⟨sl, e b _ (Heap.lt_size a1) q⟩
  · rw [eH b (Heap.lt_size a1)]
    exact u.free b o a1 a2 a3
  · obtain ⟨o', q⟩ := u.there b o a1 a2
    exact ⟨o', e b _ (Heap.lt_size a1) q⟩
  · rw [eH b (lt _ _ z)]
    exact u.tups b xs z
  · rw [eH b (lt _ _ z)]
    exact u.frzs b o v z
  · rw [eH b (lt _ _ z)]
    exact u.tbls b ps z
theorem HOk.off {P : Program} {w : World} {H : Hp} {h h' : Heap} (x : HOk P w H h) (e : ∀ b o u, H b = some u → h.get? b = some o → h'.get? b = some o) : HOk P w H h' := fun b u q => by
  refine (x b u q).stay (fun c v hc z => ?_) (fun _ z => z) fun _ _ z => z
  rcases hc with y | y
  · exact e c v u (by rw [y]; exact q) z
  · exact e c v _ y z
/-- the heap without one object -/
def wiped (h : Heap) (k : Addr) : Heap := h.update k fun o => { o with data := .freed }
theorem wiped_none (h : Heap) (k : Addr) : (wiped h k).get? k = none := by
  obtain ⟨objs, l⟩ := h
  simp only [wiped, Heap.update, Heap.get?, Array.getElem?_modify, if_true]
  cases objs[k]? with
  | none => rfl
  | some o => rfl
theorem wiped_at {h : Heap} {k b : Addr} (hb : b ≠ k) : (wiped h k).get? b = h.get? b := Heap.get?_update_ne _ _ _ _ hb
theorem sqT_ex {K : PySem.W.Frag} {H H' : Hp} {p : Addr} {xs : List V} (e : ∀ b ob, H b = some ob → H' b = some ob) (h : SqT K H p xs) : SqT K H' p xs := by
  rcases h with (h | ⟨o, h⟩) | h
  · exact .inl (.inl (e _ _ h))
  · exact .inl (.inr ⟨o, e _ _ h⟩)
  · exact .inr h
section
variable {X : Cx} {pins : List (Addr × Obj)} {σ : L2.St} {H : Hp} {s : Shared} {k : Nat} {f : Addr} {sp : Sp} {n : Str → Int} {t : Str → Str}
abbrev KyAt (K : PySem.W.Frag) (H : Hp) (n : Str → Int) (t : Str → Str) (u : Value) (z : Str) : Prop := ∃ p, u = .ref p ∧ SqT K H p [.int (n z), .str (t z)]
abbrev IsZ (v : Value) (z : Str) : Prop := ∃ tk, v = .str z tk
abbrev encZ (n : Str → Int) (t : Str → Str) (z : Str) : PyData := .tuple [.int (n z), .str (t z)]
/-- the state while the keys are made -/
structure KSt (X : Cx) (H : Hp) (s : Shared) (kS a : Addr) (e1 : Nat) (n : Str → Int) (t : Str → Str) (ys : List Str) (s' : Shared) (Hj : Hp) (kA : Array Value) : Prop where
  os : s'.os = s.os
  bare : AllBare s'.gens
  un : Un (frs X.stack) [] H Hj s.heap s'.heap
  hok : HOk X.prog X.w Hj s'.heap
  kn : Hj kS = none
  an : Hj a = none
  ka : ∃ e, s'.heap.get? kS = some (seqObj "list" kA e)
  aa : s'.heap.get? a = some (seqObj "list" #[] e1)
  ex : ∀ b ob, H b = some ob → Hj b = some ob
  ks : EachIs (KyAt X.K Hj n t) kA.toList ys
/-- what is wanted of f -/
abbrev KeyF (X : Cx) (sp : Sp) (H : Hp) (n : Str → Int) (t : Str → Str) (zs : List Str) : Prop :=
  ∀ Hj, (∀ b ob, H b = some ob → Hj b = some ob) → ∀ z ∈ zs, sp [.str z] Hj (fun v H2 => (∀ b ob, Hj b = some ob → H2 b = some ob) ∧ ∃ p, v = .ref p ∧ SqT X.K H2 p [.int (n z), .str (t z)]) E0
theorem keysK_rest {P : PySem.Fin → Shared → Prop} {E : Value → Shared → Prop} (F : FnR X.prog X.w X.K X.mg X.base CX0 k f sp) (hr : Room (k + 1) X.A) (I : Inv X pins σ H s)
    {zs : List Str} {vs : List Value} (hv : EachIs IsZ vs zs) (hZ : vs.length ≤ sizeLine) (hsp : KeyF X sp H n t zs)
    {s0 : Shared} {kS a : Addr} {e1 : Nat} (k0 : KSt X H s kS a e1 n t [] s0 H #[]) (hk : s.heap.objs.size ≤ kS) (ha : s.heap.objs.size ≤ a) (hka : kS ≠ a)
    (h : ∀ s1 H1 kA h' tk out c, KSt X H s kS a e1 n t zs s1 H1 kA → KeepsBut a (wiped s1.heap kS) h' → h'.get? a = some (seqObj "list" (List.toArray out) c) → out.length = zs.length → EachIs IsZ out (zs.mergeSort (dataLe false (encZ n t))) →
      P (.done (.ret .none)) { s1 with heap := h', toks := tk }) :
    wpAny (model X.prog X.w) X.A.in1.in1 (ksk_rest a (.ref f) false vs.toArray e1 (.ref kS)) P E s0 := by
  have stk : ∀ b, s.heap.objs.size ≤ b → b ∉ frs X.stack := fun b hb z => by
    have q := I.fpOk (H' := H) hb (I.hok.fresh hb)
    rcases List.mem_cons.mp (I.stkSub b z) with y | y
    · exact q.2.1 y
    · exact q.2.2.1 y
  have hlen := hv.length
  unfold ksk_rest
  refine wpAny_bind (wpAny_rule ?_)
  rw [List.forIn_toArray]
  refine wpAny_bind (ksk_fold (fun i s' => ∃ Hj kA, KSt X H s kS a e1 n t (zs.take i) s' Hj kA) vs 0 s0 ⟨H, #[], by rw [List.take_zero]; exact k0⟩ ?step ?done)
  case step =>
    rintro j x s' hx ⟨Hj, kA, S⟩
    simp only [Nat.zero_add] at S ⊢
    have hj : j < vs.length := (List.getElem?_eq_some_iff.mp hx).1
    obtain ⟨z, hz⟩ : ∃ z, zs[j]? = some z := ⟨_, List.getElem?_eq_getElem (by omega)⟩
    obtain ⟨tz, rfl⟩ : IsZ x z := hv.zip (x, z) (List.mem_of_getElem? (i := j) (by rw [List.getElem?_zip_eq_some]; exact ⟨hx, hz⟩))
    have Ij : Inv X pins σ Hj s' := I.call' S.os S.un S.hok S.bare fun b hb => nomatch hb
    have hc : wpAny (model X.prog X.w) X.A.in1.in1 (call (.ref f) [.str z tz]) (CE X.stack X.prog X.w Hj s' fun v H2 => (∀ b ob, Hj b = some ob → H2 b = some ob) ∧ ∃ p, v = .ref p ∧ SqT X.K H2 p [.int (n z), .str (t z)]) (fun _ _ => False) s' :=
      wpAny_call (codeAny_mono (F X.A.in1.in1 X.stack s' Hj [.str z tz] [.str z] _ E0 (Room.in2 hr) Ij.env0.in1.in1 (.cons ⟨tz, rfl⟩ .nil) (hsp Hj S.ex z (List.mem_of_getElem? hz))) fun r s'' hq => by
        cases r with
        | error e => exact hq
        | ok fl =>
          cases fl with
          | ret u => exact hq
          | _ => exact False.elim hq)
    refine wpAny_bind (wpAny_attempt (wpAny_mono hc (fun v s'' he => ?_) fun _ _ hF => hF.elim))
    obtain ⟨v', H2, os, bare, un, hok, rv, ex2, p, rfl, hsq⟩ := he
    obtain rfl : v = Value.ref p := rv
    try dsimp only
    obtain ⟨e, hke⟩ := S.ka
    have nk2 := un.keep kS _ hke S.kn (stk kS hk) (by simp)
    have na2 := un.keep a _ S.aa S.an (stk a ha) (by simp)
    have kn2 := un.free kS _ hke S.kn (by simp)
    have an2 := un.free a _ S.aa S.an (by simp)
    have hsz : kA.size ≤ vs.length := by
      have h1 := S.ks.length
      rw [Array.length_toList, List.length_take] at h1
      omega
    have ne : ∀ b o, b ≠ kS → s''.heap.get? b = some o → (s''.heap.update kS (Obj.mapSeq (·.push (Value.ref p)))).get? b = some o := fun b o hb z => (Heap.get?_update_ne _ _ _ _ hb).trans z
    refine wpAny_bind (listUpdate_at nk2 rfl ?_ (Nat.le_trans hsz hZ) (Nat.le_trans (Nat.le_of_eq (Array.size_push ..)) (Nat.succ_le_succ (Nat.le_trans hsz hZ))))
    refine wpAny_pure ⟨rfl, H2, kA.push (.ref p), ?_⟩
    refine ⟨os.trans S.os, bare, Un.off (S.un.trans un) (fun b hb => I.hok.fresh hb) (fun b o hb z => ne b o (Nat.ne_of_lt (Nat.lt_of_lt_of_le hb hk)) z) fun _ _ => rfl, HOk.off hok fun b o u hu z => ne b o (fun q => by rw [q, kn2] at hu; cases hu) z, kn2, an2, ⟨_, get?_update_seq nk2 (·.push (Value.ref p))⟩, ne a _ (Ne.symm hka) na2, fun b ob z => ex2 b ob (S.ex b ob z), ?_⟩
    rw [Array.toList_push, show zs.take (j + 1) = zs.take j ++ [z] by rw [List.take_add_one, hz]; rfl]
    exact PySem.W.each_snoc ⟨p, rfl, hsq⟩ (S.ks.mono fun u y ⟨q, e, hq⟩ => ⟨q, e, sqT_ex ex2 hq⟩)
  case done =>
    rintro s' ⟨Hj, kA, S⟩
    have e3 : zs.take (0 + vs.length) = zs := List.take_of_length_le (by omega)
    rw [e3] at S
    obtain ⟨e, hke⟩ := S.ka
    have Ij : Inv X pins σ Hj s' := I.call' S.os S.un S.hok S.bare fun b hb => nomatch hb
    have hks : EachIs (fun v z => ∃ as, Reads s'.heap v (encZ n t z) as) kA.toList zs := S.ks.mono fun u z ⟨p, eu, hq⟩ => by
      subst eu
      obtain ⟨its, ry, ⟨o, ho, hc, m, hd⟩, _⟩ := Ij.tuple hq
      cases ry with
      | @cons _ u1 _ us r1 rs =>
      cases rs with
      | @cons _ u2 _ us2 r2 rs2 =>
      cases rs2
      obtain ⟨t1, rfl⟩ := r1
      obtain ⟨t2, rfl⟩ := r2
      exact ⟨_, .tuple ho hc hd (.cons (.int _ _) (.cons (.str _ _) .nil))⟩
    have hal : AllAlike (zs.map (encZ n t)) := AllAlike.of fun _ _ => by simp [alike, PySem.W.alikeAll]
    have hk' := PySem.W.each_map (R := fun v d => ∃ as, Reads s'.heap v d as) (encZ n t) hks
    have hsz : kA.size = vs.length := by
      have h1 := S.ks.length
      rw [Array.length_toList] at h1
      omega
    have hu : ∀ d, d ∈ zs.map (encZ n t) → X.A.in1.in1.units + d.depth < cLine := fun d hd => by
      obtain ⟨z, _, rfl⟩ := List.mem_map.mp hd
      have hdp : (encZ n t z).depth = 1 := by simp [encZ, PyData.depth, PyData.depthAll]
      have := (Room.in2 hr).un
      rw [hdp]
      omega
    refine wpAny_bind (listItems_at hke rfl ?_)
    exact keyH_end (κ := PySem.W.dataKind s'.heap (zs.map (encZ n t))) (h₁ := wiped s'.heap kS) (fun b o hb q => by
        by_cases hbk : b = kS
        · rw [hbk, wiped_none] at q; cases q
        · rw [wiped_at hbk] at q; exact q) (wiped_none _ _) hke S.aa hka (SortsAt.data (s := s') hk' hal (Sortable.tuples fun _ => ⟨_, _, rfl⟩) hu) hsz hZ
      fun h3 tk3 c k3 n3 => h s' Hj kA h3 tk3 _ c S k3 n3 (by rw [PySem.W.sortVals_length false (by rw [Array.length_toList]; exact hsz)]; exact hlen) (keyedOut_each (encZ n t) ⟨s'.heap, kA.toList, hal, rfl, hk'⟩ hv)
theorem keysK_tree {P : PySem.Fin → Shared → Prop} {E : Value → Shared → Prop} (F : FnR X.prog X.w X.K X.mg X.base CX0 k f sp) (hr : Room (k + 1) X.A) (I : Inv X pins σ H s)
    {zs : List Str} {vs : List Value} (hv : EachIs IsZ vs zs) (hZ : vs.length ≤ sizeLine) (hsp : KeyF X sp H n t zs)
    {hc : Heap} {tc : Nat} {a : Addr} {m : Nat} (hold : ∀ b o, s.heap.get? b = some o → hc.get? b = some o) (ha : s.heap.objs.size ≤ a) (ho : hc.get? a = some (seqObj "list" vs.toArray m))
    (h : ∀ s1 H1 kS kA e1 h' tk out c, s.heap.objs.size ≤ kS → kS ≠ a → KSt X H s kS a e1 n t zs s1 H1 kA → KeepsBut a (wiped s1.heap kS) h' → h'.get? a = some (seqObj "list" (List.toArray out) c) → out.length = zs.length → EachIs IsZ out (zs.mergeSort (dataLe false (encZ n t))) →
      P (.done (.ret .none)) { s1 with heap := h', toks := tk }) :
    wpAny (model X.prog X.w) X.A.in1.in1 (ksk_tree a (.ref f) false) P E { s with heap := hc, toks := tc } := by
  have hlt : a < hc.objs.size := Heap.lt_size ho
  have up : ∀ b o, b ≠ a → hc.get? b = some o → (hc.update a (Obj.mapSeq fun _ => (#[] : Array Value))).get? b = some o := fun b o hb z => (Heap.get?_update_ne _ _ _ _ hb).trans z
  obtain ⟨e1, ho1⟩ : ∃ e1, (hc.update a (Obj.mapSeq fun _ => (#[] : Array Value))).get? a = some (seqObj "list" #[] e1) := ⟨_, get?_update_seq ho fun _ => #[]⟩
  have hkS : ((hc.update a (Obj.mapSeq fun _ => (#[] : Array Value))).push (seqObj "tuple" vs.toArray 0)).objs.size = hc.objs.size + 1 := by rw [size_push', Heap.size_update]
  have hss : s.heap.objs.size ≤ hc.objs.size := Nat.le_trans ha (Nat.le_of_lt hlt)
  have old : ∀ b o, s.heap.get? b = some o → (((hc.update a (Obj.mapSeq fun _ => (#[] : Array Value))).push (seqObj "tuple" vs.toArray 0)).push (seqObj "list" #[] 0)).get? b = some o := fun b o z =>
    Heap.get?_push_of_some _ (Heap.get?_push_of_some _ (up b o (Nat.ne_of_lt (Nat.lt_of_lt_of_le (Heap.lt_size z) ha)) (hold b o z)))
  unfold ksk_tree
  refine wpAny_bind (listItems_at ho rfl ?_)
  refine wpAny_bind (listUpdate_at ho rfl ?_ (by rw [List.size_toArray]; exact hZ) (Nat.zero_le _))
  refine wpAny_bind (seqEpoch_at ho1 rfl ?_)
  refine wpAny_bind (wpAny_newTuple ?_ (by show vs.length ≤ _; exact hZ))
  refine wpAny_bind (wpAny_newList ?_ (Nat.zero_le _))
  refine wpAny_holding ?_
  have kn : H ((hc.update a (Obj.mapSeq fun _ => (#[] : Array Value))).push (seqObj "tuple" vs.toArray 0)).objs.size = none := I.hok.fresh (by rw [hkS]; omega)
  refine keysK_rest (kS := ((hc.update a (Obj.mapSeq fun _ => (#[] : Array Value))).push (seqObj "tuple" vs.toArray 0)).objs.size) (e1 := e1) F hr I hv hZ hsp
    ⟨rfl, I.bare, Un.kept old, I.hok.kept old, kn, I.hok.fresh ha, ⟨0, Heap.get?_push_size _ rfl⟩, Heap.get?_push_of_some _ (Heap.get?_push_of_some _ ho1), fun _ _ z => z, .nil⟩
    (by rw [hkS]; omega) ha (by rw [hkS]; exact Nat.ne_of_gt (Nat.lt_succ_of_lt hlt)) fun s1 H1 kA h' tk out c S kp hA ol eo => h s1 H1 _ kA e1 h' tk out c (by rw [hkS]; omega) (by rw [hkS]; exact Nat.ne_of_gt (Nat.lt_succ_of_lt hlt)) S kp hA ol eo
theorem vals_z : ∀ {us : List Value} {zs : List Str}, EachIs IsZ us zs → Vals (zs.map V.str) us
  | _, _, .nil => .nil
  | _, _, .cons h t => .cons h (vals_z t)
theorem sortedK {Q : Value → Shared → Prop} {E : Value → Shared → Prop} (F : FnR X.prog X.w X.K X.mg X.base CX0 k f sp) (hr : Room (k + 1) X.A) (I : Inv X pins σ H s) {T : String} {r d : Addr} {m : Nat} {Pv : Nat → Value → Prop} {OK : Heap → Prop}
    (Kd : KdlSrc X.prog X.w T r d m Pv OK) (hok : OK s.heap) {zs : List Str} (hm : m = zs.length) (hz : zs.length ≤ sizeLine) (hPv : ∀ j v z, Pv j v → zs[j]? = some z → IsZ v z) (hsp : KeyF X sp H n t zs)
    (h : ∀ p H1 s1, (∀ b ob, H b = some ob → H1 b = some ob) → H1 p = none → Inv X pins σ (upd H1 p (.lst ((zs.mergeSort (dataLe false (encZ n t))).map V.str))) s1 → Q (.ref p) s1) :
    wpAny (model X.prog X.w) X.A (call (.builtin "sorted") [.ref r] [(Str.ofString "key", .ref f)]) Q E s := by
  refine call_function_entry_kw kind_sorted plain_sorted entry_sorted (ksk_s1 _ _) ?_
  unfold Builtin.«sorted»
  refine wpAny_bind (m := checkCount "sorted" 1 1 _) (wpAny_pure ?_)
  refine wpAny_bind (collect_kdl Kd hr.hd hok (by rw [hm]; exact hz) fun hc tc acc szc hold hi => ?_)
  have hal : acc.toList.length = zs.length := by rw [Array.length_toList, hi.1, hm]
  have hv : EachIs IsZ acc.toList zs := EachIs.of_zip hal fun p hp => by
    obtain ⟨j, hj⟩ := List.mem_iff_getElem?.mp hp
    rw [List.getElem?_zip_eq_some] at hj
    exact hPv j p.1 p.2 (hi.2 j p.1 (by rw [← Array.getElem?_toList]; exact hj.1)) hj.2
  have hZ : acc.toList.length ≤ sizeLine := by rw [hal]; exact hz
  refine wpAny_bind (wpAny_newList ?_ hZ)
  refine wpAny_bind (wpAny_holding (wpAny_call_entry_kw slot_list_sort ⟨_, Heap.get?_push_size _ rfl, rfl⟩ entry_list_sort ?body (ksk_l1 _ _)))
  case body =>
    rw [ksk_t1]
    refine keysK_tree (a := hc.objs.size) (m := 0) F hr I hv hZ hsp (fun b o z => Heap.get?_push_of_some _ (hold b o z)) szc (Heap.get?_push_size _ rfl) fun s1 H1 kS kA e1 h' tk out c hkS hka S kp hA ol eo => ?_
    refine ⟨_, rfl, wpAny_pure ⟨_, rfl, ?_⟩⟩
    have keep : ∀ b o, b ≠ kS → b ≠ hc.objs.size → s1.heap.get? b = some o → h'.get? b = some o := fun b o b1 b2 z => kp b o b2 (by rw [wiped_at b1]; exact z)
    refine h _ H1 _ S.ex S.an (I.call' S.os (Un.off S.un (fun b hb => I.hok.fresh hb) (fun b o hb z => keep b o (Nat.ne_of_lt (Nat.lt_of_lt_of_le hb hkS)) (Nat.ne_of_lt (Nat.lt_of_lt_of_le hb szc)) z) fun b hb => upd_ne (Nat.ne_of_lt (Nat.lt_of_lt_of_le hb szc))) ?_ S.bare fun b hb => nomatch hb)
    have hok1 : HOk X.prog X.w H1 h' := HOk.off S.hok fun b o u hu z => keep b o (fun q => by rw [q, S.kn] at hu; cases hu) (fun q => by rw [q, S.an] at hu; cases hu) z
    refine HOk.laidN hok1 (fun _ _ z => z) S.an ⟨?_, out, c, ?_, hA⟩
    · rw [List.length_map, List.length_mergeSort]; exact hz
    · exact vals_z eo
/-- sorted(d, key=f), d a dict with texts as keys -/
def rSortKD (f : Addr) (sp : Sp) (K : PySem.W.Frag) : List V → List V → Hp → VK → Prop := fun xs ys H Q => ∃ (d : Addr) (kvs : List (L2.Key × V)) (zs : List Str) (n : Str → Int) (t : Str → Str), xs = [.ref d] ∧ ys = [.ref f] ∧ H d = some (.dK kvs) ∧ kvs.map (·.1) = zs.map Sum.inr ∧
  (∀ Hj, (∀ b ob, H b = some ob → Hj b = some ob) → ∀ z ∈ zs, sp [.str z] Hj (fun v H2 => (∀ b ob, Hj b = some ob → H2 b = some ob) ∧ ∃ p, v = .ref p ∧ SqT K H2 p [.int (n z), .str (t z)]) E0) ∧
  ∀ H1 p, (∀ b ob, H b = some ob → H1 b = some ob) → H1 p = none → Q (.ref p) (upd H1 p (.lst ((zs.mergeSort (dataLe false (encZ n t))).map V.str)))
theorem cr_sortKD (F : FnR X.prog X.w X.K X.mg X.base CX0 k f sp) (hr : Room (k + 1) X.A) : L2.CallRK X (.builtin "sorted") [Str.ofString "key"] (rSortKD f sp X.K) := by
  intro pins s σ H xs ys us ws Q I r1 r2 h
  obtain ⟨d, kvs, zs, n, t, rfl, rfl, hd, hk, hsp, q⟩ := h
  obtain ⟨u, rfl, ru⟩ := r1.one
  obtain ⟨u2, rfl, ru2⟩ := r2.one
  obtain rfl : u = Value.ref d := ru
  obtain rfl : u2 = Value.ref f := ru2
  obtain ⟨z, lo, vs, rk, hdc⟩ := (show ObjOk X.prog X.w H s.heap d (.dK kvs) from I.hok d _ hd)
  obtain ⟨ep, hat⟩ := hdc.dictAt
  have hl : kvs.length = vs.length := Paired.length rk
  have hlz : zs.length = kvs.length := by
    have := congrArg List.length hk
    rw [List.length_map, List.length_map] at this
    exact this.symm
  refine sortedK (n := n) (t := t) F hr I (PySem.W.kdl_dict (knd := mixKind X.prog X.w) (kvs := vs) (ep := ep) lo) hat (zs := zs) (by omega) (by omega) (fun j v y hp hy => ?_) hsp fun p H1 s1 he hn I1 => ⟨.ref p, _, I1, rfl, q H1 p he hn⟩
  obtain ⟨ky, x, hky, hi⟩ := hp
  have e1 : (kvs.map (·.1))[j]? = some ky := by
    rw [KV.keys rk, List.getElem?_map, hky] <;> rfl
  rw [hk, List.getElem?_map, hy] at e1
  cases e1
  exact keyIs_rel (k := Sum.inr y) (v := v) (show keyIs (Sum.inr y) v = true from hi)
theorem pe_glob {X : Cx} {x : Str} {u : Addr} {pos : Pos} (hg : Gl X x) (hm : X.mg x = some (.ref u)) (hd : (x == ("__debug__" : Str)) = false := by decide) : PE X (.Name x pos) (tC (.ref u)) :=
  ⟨fun pins s σ H Q I h => ld_glob I hg hm ⟨.ref u, H, I, rfl, h⟩ hd⟩
theorem repD_keys {F : PySem.W.Frag} {B : Hp} : ∀ {xs : List (L2.Key × V)} {kvs : List (DKey × Dat)}, RepD F B xs kvs → xs.map (·.1) = kvs.map fun p => p.1.toK
  | _, _, .nil => rfl
  | _, _, .cons _ t => congrArg (List.cons _) (repD_keys t)
theorem lenc (w : List Nat) : encZ (fun z => ((z.length : Nat) : Int)) (fun z => z) (S w) = toP (.tup [.int (w.length : Int), .str w]) := by
  show PyData.tuple [.int ((S w).length : Int), .str (S w)] = PyData.tuple [.int (w.length : Int), .str (S w)]
  rw [S_len]
section
variable {K : KB} {w : Bool} {ρ : LS} {R : Dat → Prop}
theorem kle_iff {a b : List Nat} : (!kLt b a) = true ↔ a.length < b.length ∨ (a.length = b.length ∧ a ≤ b) := by
  unfold kLt
  simp only [Bool.not_eq_true', Bool.or_eq_false_iff, Bool.and_eq_false_iff, decide_eq_false_iff_not, List.not_lt]
  constructor
  · rintro ⟨h1, h2⟩
    rcases Nat.lt_or_ge a.length b.length with h | h
    · exact .inl h
    · rcases h2 with h2 | h2
      · exact absurd (Nat.le_antisymm (Nat.not_lt.mp h1) h).symm h2
      · exact .inr ⟨Nat.le_antisymm (Nat.not_lt.mp h1) h, h2⟩
  · rintro (h | ⟨h, k⟩)
    · exact ⟨Nat.not_lt.mpr (Nat.le_of_lt h), .inl fun e => Nat.ne_of_gt h e⟩
    · exact ⟨by rw [h]; exact Nat.lt_irrefl _, .inr k⟩
theorem kle_tr : ∀ a b c : List Nat, (!kLt b a) = true → (!kLt c b) = true → (!kLt c a) = true := fun a b c h1 h2 => by
  rw [kle_iff] at h1 h2 ⊢
  rcases h1 with h1 | ⟨h1, k1⟩ <;> rcases h2 with h2 | ⟨h2, k2⟩
  · exact .inl (by omega)
  · exact .inl (by omega)
  · exact .inl (by omega)
  · exact .inr ⟨by omega, List.le_trans k1 k2⟩
theorem kle_tt : ∀ a b : List Nat, ((!kLt b a) || (!kLt a b)) = true := fun a b => by
  rw [Bool.or_eq_true, kle_iff, kle_iff]
  rcases Nat.lt_trichotomy a.length b.length with h | h | h
  · exact .inl (.inl h)
  · rcases List.le_total a b with k | k
    · exact .inl (.inr ⟨h, k⟩)
    · exact .inr (.inr ⟨h.symm, k⟩)
  · exact .inr (.inl h)
theorem repL_strs {F : PySem.W.Frag} {B : Hp} : ∀ ls : List (List Nat), RepL F B ((ls.map S).map V.str) (ls.map Dat.str)
  | [] => .nil
  | l :: ls => .cons (.str l) (repL_strs ls)
/-- sorted(d, key=f), d an own dict, f gives (length, text) -/
theorem g_sortK {i : Nat} {f : Addr} {kvs : List (DKey × Dat)} {ws : List (List Nat)} {Sf : List Dat → (Dat → Prop) → Prop} (he : ρ[i]? = some (.od kvs)) (hk : kvs.map (·.1) = ws.map DKey.s)
    (hS : ∀ u ∈ ws, Sf [.str u] fun d => d = .tup [.int (u.length : Int), .str u]) (h : ∀ ls : List (List Nat), ls.Perm ws → ls.Pairwise (fun a b => kLt b a = false) → R (.lst (ls.map Dat.str))) :
    G K w ρ (tCKw (rSortKD f (spF K.F Sf) K.F) (tCons (tVar i) tNil) (tCons (tC (.ref f)) tNil)) R := fun c σ H o Q q => by
  obtain ⟨v, ev, a, xs, rfl, ha, rd⟩ := o.get he
  refine ⟨_, ev, ?_⟩
  refine ⟨a, xs, ws.map S, fun z => ((z.length : Nat) : Int), fun z => z, rfl, rfl, ha, ?_, fun Hj e z hz => ?_, fun H1 p e hn => ?_⟩
  · rw [repD_keys rd, show (kvs.map fun p => p.1.toK) = (kvs.map (·.1)).map DKey.toK by rw [List.map_map]; rfl, hk, List.map_map, List.map_map]
    rfl
  · obtain ⟨u, hu, rfl⟩ := List.mem_map.mp hz
    refine ⟨_, [.str u], _, (o.ex e).trk (w := true), .cons (.str u) .nil, hS u hu, fun v H' d ex rv rd => ⟨ex, ?_⟩⟩
    subst rd
    cases rv with
    | tup s r =>
    cases r with
    | cons r1 r =>
    cases r with
    | cons r2 r =>
    cases r
    cases r1
    cases r2
    refine ⟨_, rfl, ?_⟩
    show SqT K.F H' _ [.int ((S u).length : Int), .str (S u)]
    rw [S_len]
    exact sqT_ex (fun b ob hb => (hid_some.mp hb).2) s
  · have em : (ws.map S).mergeSort (dataLe false (encZ (fun z => ((z.length : Nat) : Int)) fun z => z)) = (ws.mergeSort fun a b => !kLt b a).map S := by
      refine (List.map_mergeSort fun a _ b _ => ?_).symm
      rw [PySem.W.dataLe_eq]
      show (!kLt b a) = !dataLt (encZ (fun z => ((z.length : Nat) : Int)) (fun z => z) (S b)) (encZ (fun z => ((z.length : Nat) : Int)) (fun z => z) (S a))
      rw [lenc, lenc, lt_key]
    rw [em]
    exact q _ _ _ ((o.ex e).ex (Ex.new hn)) (Ex.trans e (Ex.new hn)).le (.lst ((o.ex e).vw_new hn) (repL_strs _)) (h _ (List.mergeSort_perm _ _) ((List.pairwise_mergeSort kle_tr kle_tt ws).imp fun {a b} z => by simpa using z))
end
end
end BV

end

section
set_option maxHeartbeats 4000000
/-! text.index, in of a tuple of tuples, tuple * n, isinstance of a caught exception -/
namespace BV
open PySem PySem.Spec L2 PyProof.Rows
/-! ### text.index(sign) -/
open PySem.Builtin.Str in
theorem occ_done (x y : Str) (n : Nat) : ∀ (l : List Nat) (f : Array Nat) (k : Nat), 0 < f.size → (forIn (m := Id) l (f, k) (PySem.StrLaws.occBody x y n 1)).run.fst = f := by
  intro l
  induction l with
  | nil => intro f k _; rfl
  | cons i r ih =>
    intro f k hf
    have hi : ¬ (((f.size < 1 ∧ k ≤ i) ∧ i + y.length ≤ n) ∧ subAt x y i = true) := fun c => by omega
    simp only [List.forIn_cons, PySem.StrLaws.occBody, if_neg hi]
    exact ih f k hf
open PySem.Builtin.Str in
theorem occ_hit (x y : Str) (n k : Nat) (l2 : List Nat) (hk : k + y.length ≤ n ∧ subAt x y k = true) : ∀ (l1 : List Nat), (∀ i ∈ l1, ¬ (i + y.length ≤ n ∧ subAt x y i = true)) → (forIn (m := Id) (l1 ++ k :: l2) ((#[] : Array Nat), 0) (PySem.StrLaws.occBody x y n 1)).run.fst = #[k] := by
  intro l1
  induction l1 with
  | nil =>
    intro _
    have hi : (((#[] : Array Nat).size < 1 ∧ 0 ≤ k) ∧ k + y.length ≤ n) ∧ subAt x y k = true := ⟨⟨⟨by simp, Nat.zero_le _⟩, hk.1⟩, hk.2⟩
    simp only [List.nil_append, List.forIn_cons, PySem.StrLaws.occBody, if_pos hi]
    exact occ_done x y n l2 _ _ (by simp)
  | cons i r ih =>
    intro h
    have hi : ¬ ((((#[] : Array Nat).size < 1 ∧ 0 ≤ i) ∧ i + y.length ≤ n) ∧ subAt x y i = true) := fun c => h i List.mem_cons_self ⟨c.1.2, c.2⟩
    simp only [List.cons_append, List.forIn_cons, PySem.StrLaws.occBody, if_neg hi]
    exact ih fun j hj => h j (List.mem_cons_of_mem _ hj)
theorem occ_sign {a : List Nat} {c k : Nat} (h : a[k]? = some c) (hf : ∀ j, j < k → a[j]? ≠ some c) : Builtin.Str.occurrences (S a) (S [c]) 0 (S a).length 1 = [k] := by
  have hlt := (List.getElem?_eq_some_iff.mp h).1
  have one : ∀ i, (i + (S [c]).length ≤ (S a).length ∧ Builtin.Str.subAt (S a) (S [c]) i = true) ↔ a[i]? = some c := fun i => by
    have := PySem.StrLaws.subAt_one (S a) c i
    rw [S_list] at this
    exact this
  rw [PySem.StrLaws.occ_eq]
  have e : List.range' 0 ((S a).length + 1 - 0) = List.range' 0 k ++ k :: List.range' (k + 1) ((S a).length - k) := by
    rw [S_len, show a.length + 1 - 0 = k + (a.length - k + 1) by omega, ← List.range'_append_1, List.range'_succ, Nat.zero_add]
  rw [e, occ_hit (S a) (S [c]) (S a).length k _ ((one k).mpr h) _ fun i hi => ?_]
  rw [one]
  have := List.mem_range'.mp hi
  exact hf i (by obtain ⟨j, h1, h2⟩ := this; omega)
def rIdx : V → List V → Hp → VK → Prop := fun x xs H Q => ∃ (a b : Str) (k : Nat), x = .str a ∧ xs = [.str b] ∧ Builtin.Str.occurrences a b 0 a.length 1 = [k] ∧ Q (.int (k : Nat)) H
theorem mt_idx {X : Cx} : MtR X "str.index" rIdx := by
  intro pins s σ H x xs v us Q I rx rs h
  obtain ⟨a, b, k, rfl, rfl, q, w⟩ := h
  obtain ⟨t, rfl⟩ := rx
  cases rs with
  | cons r1 rs =>
    cases rs
    obtain ⟨u, rfl⟩ := r1
    exact PySem.SC.index q ⟨.int (k : Nat), H, I.tok _, ⟨_, rfl⟩, w⟩
/-! ### in a tuple of tuples -/
def rInDT (K : PySem.W.Frag) (neg : Bool) : R2 := fun x y H Q => ∃ d ds, Dp K H x d ∧ Dp K H y (.tuple ds) ∧ SeqAt.shaped d = true ∧ SeqAt.shaped (.tuple ds) = true ∧ Q (.bl (if neg then !ds.any fun z => PyData.eqv z d else ds.any fun z => PyData.eqv z d)) H
theorem room_inT {A : Around} {d : PyData} {ds : List PyData} (h : SeqAt.shaped d = true) (hu : A.units + 65 < cLine) : A.units + 1 + min (PyData.depthAll ds) d.depth < cLine := by
  unfold SeqAt.shaped at h
  rw [Bool.and_eq_true] at h
  have := of_decide_eq_true h.2
  omega
theorem canT {ds : List PyData} (h : SeqAt.shaped (.tuple ds) = true) : PyData.canLayAll0 ds = true := by
  have h1 := SeqAt.canLay_of_shaped h
  simpa only [PyData.canLay0] using h1
theorem kInDT {X : Cx} (K : PySem.W.Frag) (h : X.K = K) (hu : X.A.units + 65 < cLine) : OpR X (compareOp .In) (rInDT K false) := by
  subst h
  intro pins s σ H x y v u Q I rx ry h
  obtain ⟨d, ds, hd, he, sd, se, q⟩ := h
  obtain ⟨as, r1⟩ := Dp.reads I d x v hd rx
  obtain ⟨bs, r2⟩ := Dp.reads I (.tuple ds) y u he ry
  exact SeqAt.in_tuple_reads r2 r1 (canT se) (SeqAt.canLay_of_shaped sd) (room_inT sd hu) ⟨.bl _, H, I, rfl, q⟩
theorem kNotInDT {X : Cx} (K : PySem.W.Frag) (h : X.K = K) (hu : X.A.units + 65 < cLine) : OpR X (compareOp .NotIn) (rInDT K true) := by
  subst h
  intro pins s σ H x y v u Q I rx ry h
  obtain ⟨d, ds, hd, he, sd, se, q⟩ := h
  obtain ⟨as, r1⟩ := Dp.reads I d x v hd rx
  obtain ⟨bs, r2⟩ := Dp.reads I (.tuple ds) y u he ry
  exact SeqAt.notIn_tuple_reads r2 r1 (canT se) (SeqAt.canLay_of_shaped sd) (room_inT sd hu) ⟨.bl _, H, I, rfl, q⟩
section
variable {K : KB} {w w1 : Bool} {ρ : LS} {R : Dat → Prop} {t : TA} {ta tb : TE}
theorem o2_inDT {neg : Bool} {x : Dat} {ds : List Dat} (hx : shp x = true) (hy : shp (.tup ds) = true) (k : R (.bl (if neg then !(toPs ds).any fun z => PyData.eqv z (toP x) else (toPs ds).any fun z => PyData.eqv z (toP x)))) : Op2 K w1 w ρ (rInDT K.F neg) x (.tup ds) R := fun c σ H u v o r1 r2 Q q => by
  unfold shp at hx hy
  rw [Bool.and_eq_true] at hx hy
  exact ⟨toP x, toPs ds, Dp.monoL vw_le _ _ (dp_of _ _ r1 hx.1), Dp.monoL vw_le _ _ (dp_of _ _ r2 hy.1), hx.2, hy.2, q _ H _ o .refl (.bl _) k⟩
theorem g_idx (h : G K true ρ ta fun x => ∃ a, x = .str a ∧ G K true ρ tb fun y => ∃ c k, y = .str [c] ∧ a[k]? = some c ∧ (∀ j, j < k → a[j]? ≠ some c) ∧ R (.int (k : Nat))) : G K w ρ (tM1 rIdx ta tb) R := fun c σ H o Q q =>
  h c σ H o _ fun v H1 d o1 l1 r1 ⟨a, e, h1⟩ => by
    subst e
    cases r1
    exact ⟨⟨_, rfl⟩, h1 c σ H1 o1 _ fun v H2 d o2 l2 r2 ⟨c, n, e, hn, hf, k⟩ => by
      subst e
      cases r2
      exact ⟨S a, S [c], n, rfl, rfl, occ_sign hn hf, q _ H2 _ o2 (l1.trans l2) (.int _) k⟩⟩
end
/-! ### tuple * n -/
theorem tuple_mul1 (l : Addr) (items : Array Value) (n : Nat) (sl : Array (Option Value)) (u : Tok) (dd : Option Addr) :
    Meets (Builtin.«tuple.__mul__» ⟨[.ref l, .int 1 u], []⟩) (fun _ R s => s.heap.get? l = some { cls := .type "tuple", dict := dd, data := .seq items n, slots := sl } ∧ R (.ok (.ret (Value.ref l))) s) :=
  .of_wp fun prog w A R s h => by
    obtain ⟨hp, g, d, tk, os⟩ := s
    obtain ⟨hl, h⟩ := h
    have f1 := AutoSeq1.idx_int
    have c0 : (decide ((1 : Int) < -(2 ^ 63)) || decide ((1 : Int) ≥ 2 ^ 63)) = false := by decide
    have c1 : (items.isEmpty || (1 : Int) == 1) = true := by simp
    wp_walk using wpAny_loadPart' hl
    exact ⟨_, rfl, h⟩
def rRepU (K : PySem.W.Frag) : R2 := fun x y H Q => rRepT K x y H Q ∨ ∃ l xs, x = .ref l ∧ y = .int 1 ∧ SqT K H l xs ∧ Q (.ref l) H
theorem kRepU {X : Cx} (K : PySem.W.Frag) (h : X.K = K) : OpR X (binaryOp .Mult) (rRepU K) := by
  subst h
  intro pins s σ H x y v u Q I rx ry h
  rcases h with h | ⟨l, xs, rfl, rfl, hT, q⟩
  · exact op_repT pins s σ H x y v u Q I rx ry h
  cases rx
  obtain ⟨t, rfl⟩ := ry
  obtain ⟨its, r, ⟨⟨cls, dd, data, sl⟩, ho, hc, n, hd⟩, hs⟩ := I.tuple hT
  simp only at hc hd
  subst hc hd
  refine wpAny_binaryOp_repeat_ref (T := "tuple") (U := "int") (by decide) ⟨_, ho, rfl⟩ (fun s' => typeIs_int s' 1 t) noFill_tuple_mul F.fills_int_mul F.slot_int_rmul repeat_tuple F.slot_int_index.lookup
    (call_meets F.slot_int_rmul (typeIs_int s 1 t) F.entry_int_rmul (F.args_int_rmul_2 _ _) (int_rmul_tuple 1 t l its.toArray n dd sl)
      ⟨ho, rfl, ⟨_, ho, rfl⟩, call_meets F.slot_tuple_mul ⟨_, ho, rfl⟩ F.entry_tuple_mul (F.args_tuple_mul_2 _ _) (tuple_mul1 l its.toArray n sl t dd) ⟨ho, ⟨.ref l, H, I, rfl, q⟩⟩⟩)
theorem repL_rep {F : PySem.W.Frag} {B : Hp} {xs : List V} {ds : List Dat} (h : RepL F B xs ds) : ∀ n : Nat, RepL F B (List.replicate n xs).flatten (List.replicate n ds).flatten
  | 0 => .nil
  | n + 1 => by
    rw [List.replicate_succ, List.replicate_succ, List.flatten_cons, List.flatten_cons]
    exact h.append (repL_rep h n)
section
variable {K : KB} {w w1 : Bool} {ρ : LS} {R : Dat → Prop}
theorem o2_repU {ds : List Dat} {n : Nat} (h1 : 1 ≤ n) (h2 : n ≤ 1000) (h3 : ds ≠ []) (h4 : ds.length ≤ 1000) (k : R (.tup (List.replicate n ds).flatten)) : Op2 K w w ρ (rRepU K.F) (.tup ds) (.int (n : Int)) R := fun c σ H u v o r1 r2 Q q => by
  cases r2
  cases r1 with
  | @tup a xs _ hb rg =>
  have hs := ex_t vw_le hb
  by_cases hn : n = 1
  · subst hn
    refine .inr ⟨a, xs, rfl, rfl, hs, q _ H _ o .refl (.tup hb rg) ?_⟩
    rw [List.replicate_one, List.flatten_cons, List.flatten_nil, List.append_nil] at k
    exact k
  · refine .inl ⟨a, (n : Int), xs, rfl, rfl, hs, fun e => h3 (by have := rg.length; rw [e] at this; exact List.eq_nil_of_length_eq_zero this.symm), by omega, by omega, by rw [rg.length]; exact h4, fun p hp => ?_⟩
    rw [Int.toNat_natCast]
    exact q _ _ _ (o.ex (Ex.new hp)) (Ex.new hp).le (.tup (.inl (.inl (o.vw_new hp))) ((repL_rep rg n).mono (Le.vw (Ex.new hp).le))) k
end
/-! ### isinstance of a caught exception, when it is one -/
section
open PySem.W
variable {K : PySem.W.Frag} {x t c : Value} {Hq : Heap → Prop}
theorem isi_ans (ty : ∀ (M : Model) (h : Heap), Hq h → Looks M h (typeOf x) t) (e : PySem.W.kitOne K t c = some true) : PySem.Answers (fun s => K.In s.heap ∧ Hq s.heap) x c true := by
  intro dep tk prog w A R s hs
  obtain ⟨h0, g, d, tt, os⟩ := s
  obtain ⟨⟨X, p⟩, hq⟩ := hs
  have LT := ty (model prog w) h0 p
  unfold PySem.W.kitOne at e
  unfold Builtin.«isinstance.nested»
  refine wpAny_bind (LT.at ?_)
  by_cases q : (t == c) = true
  · rw [if_pos q]
    first | exact wpAny_bind (wpAny_rule (wpAny_pure (hq tt))) | exact wpAny_bind (wpAny_rule (hq tt))
  · rw [if_neg q] at e
    rw [if_neg q]
    obtain ⟨hty, his, hsub⟩ := PySem.W.kit_cls (M := model prog w) X e
    have LI : Looks (model prog w) h0 (isInstance x c) true := LT.andThen hsub
    refine wpAny_bind (hty.at ?_)
    rw [if_pos (by decide)]
    k_delta "plainIsInstance"
    refine wpAny_bind (wpAny_bind (his.at ?_))
    simp only [Bool.not_true, Bool.false_eq_true, if_false]
    refine wpAny_bind (LI.at ?_)
    simp only [if_true]
    first | exact wpAny_pure (wpAny_pure (hq tt)) | exact wpAny_pure (hq tt) | exact wpAny_bind (wpAny_pure (wpAny_pure (hq tt)))
theorem isi_yes {prog : Program} {w : World} {A : Around} {E : Value → Shared → Prop} {s : Shared} {Q : Value → Shared → Prop} (ty : ∀ (M : Model) (h : Heap), Hq h → Looks M h (typeOf x) t) (X : K.In s.heap) (p : Hq s.heap) (e : PySem.W.kitOne K t c = some true) (hx : x ≠ .builtin "__main__.__loader__#opaque")
    (h : ∀ tk, Q (.bool true) { s with toks := tk }) : wpAny (model prog w) A (call (.builtin "isinstance") [x, c]) Q E s :=
  call_isinstance (S := fun _ R s => (K.In s.heap ∧ Hq s.heap) ∧ ∀ tk, R (.ok (.ret (.bool true))) { s with toks := tk })
    (fun prog w A R s hs => isinstance_outer (isi_ans ty e 0 _ prog w A R s hs) hx) ⟨⟨X, p⟩, h⟩
end
/-- isinstance(e, C), e the exception that the suite holds, C its class or one above it -/
def rIsEx (K : PySem.W.Frag) (cls : Value) (a : Addr) : List V → Hp → VK → Prop := fun xs H Q => ∃ C : Addr, xs = [.ref a, .ref C] ∧ PySem.W.kitOne K cls (.ref C) = some true ∧ Q (.bl true) H
theorem call_isEx {X : Cx} {a : Addr} {cls : Value} {d : Option Addr} {oe : Obj} {pn : List (Addr × Obj)} (hz : Zc cls d oe) : CallR (X.suite a ((a, oe) :: pn)) (.builtin "isinstance") (rIsEx X.K cls a) := by
  intro pins s σ H xs us Q I r h
  obtain ⟨C, rfl, e, q⟩ := h
  cases r with
  | cons rx rr =>
    cases rr with
    | cons rt rr =>
      cases rr
      cases rx
      cases rt
      obtain ⟨hget, _⟩ := I.pin (a, oe) (List.mem_append.mpr (.inl List.mem_cons_self))
      exact isi_yes (Hq := fun h => h.get? a = some oe) (fun M h hg => by
        rw [← hz.1]
        exact (PySem.W.Looks.ld hg).andThen .now) I.kIn hget e (fun z => nomatch z) fun tk => ⟨.bl true, H, I.kept (t' := tk) fun _ _ z => z, rfl, q⟩
section
variable {K : KB} {ρ : LS}
theorem g_isEx {w : Bool} {i : Nat} {a d D C : Addr} {fs : List (Str × Dat)} {R : Dat → Prop} (h : ρ[i]? = some (.exc a d D fs)) (e : PySem.W.kitOne K.F (.ref D) (.ref C) = some true) (k : R (.bl true)) : G K w ρ (tCB (rIsEx K.F (.ref D) a) (tCons (tVar i) (tCons (tC (.ref C)) tNil))) R := fun c σ H o Q q => by
  obtain ⟨v, ev, xs, rfl, hd, rf⟩ := o.get h
  exact ⟨.ref a, ev, C, rfl, e, q _ H _ o .refl (.bl true) k⟩
end
end BV

end

section
set_option maxHeartbeats 4000000
/-! a call of an object that may let an exception out -/
namespace BV
open PySem PySem.Spec L2 PyProof.Rows
def tCOS (C : Addr) (sp : Sp) (E : L2.St → XK) (tf : TE) (t : TA) : TE := fun σ H Q => tf σ H fun y H1 => ∃ a, y = V.ref a ∧ t σ H1 fun vs H2 => (∃ dx fs, H2 a = some (.ins C dx fs)) ∧ sp (V.ref a :: vs) H2 Q (E σ)
theorem pe_cOS {X : Cx} {CX : CXT} {k : Nat} {C g : Addr} {sp : Sp} {E : L2.St → XK} {e fe : Expr} {es : List Expr} {tf : TE} {t : TA} {pos : Pos} (hf : PE X fe tf) (c : StX.CallO X.K C g) (F : FnR X.prog X.w X.K X.mg X.base CX k g sp) (hr : Room k X.A) (hx : ∀ σ, PassesAt CX X σ (E σ)) (ha : PA X (e :: es) t)
    (ht : eval (.Call fe (e :: es) [] pos) X.env = (do callWith pos (← eval fe X.env) [] (backTo pos (starEach (e :: es) X.env)) (backToKw pos (keywordEach [] X.env))) := by rfl)
    (he : starEach (e :: es) X.env = (false, eval e X.env) :: starEach es X.env := by rfl) (hpl : (backTo pos (starEach es X.env)).any (·.1) = false := by rfl) : PE X (.Call fe (e :: es) [] pos) (tCOS C sp E tf t) := by
  refine ⟨fun pins s σ H Q I h => ?_⟩
  refine Call_ (thn (hf.run pins s σ H _ I h) fun u s1 ⟨y, H1, I1, ry, a, ey, q⟩ => ?_) ht
  subst ey
  obtain rfl : u = Value.ref a := ry
  refine StX.callO_with (thn (ha.run pos pins s1 σ H1 _ I1 q) fun us s2 ⟨vs, H2, I2, r, hi, q2⟩ => ?_) he hpl
  obtain ⟨ox, od, J, hd⟩ := StX.insC_at I2 (.inr hi)
  exact ⟨⟨C, ox, od, J, hd⟩, wpAny_call (PySem.W.kco_code I2.kIn J hd c.at_ c.fn c.fi (run_fnRS (us := .ref a :: us) (vs := .ref a :: vs) F hr (hx σ) I2 (.cons rfl r) q2))⟩
section
variable {K : KB} {ρ : LS} {t : TA} {tf : TE} {R : Dat → Prop} {C : Addr}
theorem g_cOS {S : List Dat → (Dat → Prop) → RX → Prop} (h : G K false ρ tf fun x => ∃ fs, x = .obj C fs ∧ GA K false ρ t fun ds => ∃ RE, S (.obj C fs :: ds) R RE ∧ ∀ C fs, RE C fs → K.RE C fs ρ) : G K false ρ (tCOS C (spX K.F S) (WE K.E) tf t) R := fun c σ H o Q q =>
  h c σ H o _ fun u H1 x o1 l1 r1 ⟨fs, ex, k⟩ => by
    subst ex
    cases r1 with
    | @obj a _ dx xs _ ha rf =>
    refine ⟨a, rfl, ?_⟩
    exact k c σ H1 o1 _ fun vs H2 ds o2 l2 r2 ⟨RE, hS, kx⟩ => ⟨⟨dx, xs, vw_le a _ (l2.vw a _ ha)⟩, _, .obj C fs :: ds, R, RE, o2.trk (w := false), .cons ((Rep.obj ha rf).mono l2.vw) r2, hS, fun v H' d e rv rd => q v H' d (o2.ex e) ((l1.trans l2).trans e.le) rv rd, fun C' dx' H' xs' fs' e hx rf' re => XOk.call o2 e hx rf' (kx C' fs' re)⟩
end
end BV

end

section
set_option maxHeartbeats 1000000
/-! Words, rules, piles: plain mathematics. -/
namespace WM
open BV
abbrev W := List Nat
abbrev Rl := W × W
def endsB (a b : W) : Bool := decide (b.length ≤ a.length) && (a.drop (a.length - b.length) == b)
theorem endsW_eq (a b : W) : endsW a b = endsB a b := by
  unfold endsW endsB PySem.Txt.endswith
  rw [PySem.StrLaws.subAt_eq, S_list, S_list, S_len, S_len, Nat.zero_add]
  by_cases h : b.length ≤ a.length
  · have : List.take b.length (List.drop (a.length - b.length) a) = List.drop (a.length - b.length) a := List.take_of_length_le (by rw [List.length_drop]; omega)
    rw [this]
  · simp [h]
theorem startsW_eq (a b : W) : startsW a b = (a.take b.length == b) := by
  unfold startsW PySem.Txt.startswith
  rw [PySem.StrLaws.subAt_eq, S_list, S_list, S_len, S_len, Nat.zero_add, List.drop_zero]
  by_cases h : b.length ≤ a.length
  · simp [h]
  · have : (a.take b.length == b) = false := by
      rw [beq_eq_false_iff_ne]
      intro e
      have := congrArg List.length e
      rw [List.length_take] at this
      omega
    simp [h, this]
theorem joinW_nil (ws : List W) : joinW [] ws = ws.flatten := by
  unfold joinW
  rw [TL.join_eq]
  show TL.tl (PySem.Str.join (S []) (ws.map S)) = _
  rw [TL.tl_join]
  have e : (ws.map S).map TL.tl = ws := by
    rw [List.map_map]
    have : TL.tl ∘ S = id := funext fun w => S_list w
    rw [this, List.map_id]
  rw [e]
  have e2 : TL.tl (S []) = [] := S_list []
  rw [e2]
  induction ws with
  | nil => rfl
  | cons w ws ih =>
    cases ws with
    | nil => simp [TL.joinL]
    | cons v ws =>
      show w ++ ([] ++ TL.joinL [] (v :: ws)) = _
      rw [List.nil_append, List.flatten_cons, ih]
      · exact (by
          rw [List.map_map]
          have : TL.tl ∘ S = id := funext fun w => S_list w
          rw [this, List.map_id])
theorem endsB_iff {a b : W} : endsB a b = true ↔ ∃ p, a = p ++ b := by
  unfold endsB
  rw [Bool.and_eq_true, decide_eq_true_eq, beq_iff_eq]
  constructor
  · rintro ⟨h1, h2⟩
    exact ⟨a.take (a.length - b.length), by conv => lhs; rw [← List.take_append_drop (a.length - b.length) a]; rw [h2]⟩
  · rintro ⟨p, rfl⟩
    rw [List.length_append]
    refine ⟨by omega, ?_⟩
    rw [show p.length + b.length - b.length = p.length by omega, List.drop_left]

/-! ### rules at the end of a pile -/
def fit (rs : List Rl) (p : W) : Option Rl := rs.find? fun r => endsB p r.1
def step1 (rs : List Rl) (p : W) : Option W := (fit rs p).map fun r => p.take (p.length - r.1.length) ++ r.2
def red (rs : List Rl) : Nat → W → W
  | 0, p => p
  | n + 1, p => match step1 rs p with
    | none => p
    | some q => red rs n q
def pileUp (rs : List Rl) (acc t : W) : W := t.foldl (fun p c => red rs (p.length + 1) (p ++ [c])) acc
def left (rs : List Rl) (t : W) : W := pileUp rs [] t
/-- rules as a book has them -/
def Good (rs : List Rl) : Prop := ∀ r ∈ rs, r.2.length < r.1.length ∧ r.1.length ≤ 4 ∧ r.2.length ≤ 1
theorem fit_some {rs : List Rl} {p : W} {r : Rl} (h : fit rs p = some r) : r ∈ rs ∧ endsB p r.1 = true := ⟨List.mem_of_find?_eq_some h, by have := List.find?_some h; exact this⟩
theorem step1_len {rs : List Rl} (g : Good rs) {p q : W} (h : step1 rs p = some q) : q.length < p.length := by
  unfold step1 at h
  cases e : fit rs p with
  | none => rw [e] at h; cases h
  | some r =>
    rw [e] at h
    cases h
    obtain ⟨h1, h2⟩ := fit_some e
    obtain ⟨u, rfl⟩ := endsB_iff.mp h2
    have := (g r h1).1
    rw [List.length_append, List.length_take, List.length_append]
    omega
theorem red_len {rs : List Rl} (g : Good rs) : ∀ (n : Nat) (p : W), (red rs n p).length ≤ p.length
  | 0, p => Nat.le_refl _
  | n + 1, p => by
    unfold red
    cases e : step1 rs p with
    | none => exact Nat.le_refl _
    | some q =>
      have := red_len g n q
      have := step1_len g e
      show (red rs n q).length ≤ p.length
      omega
/-- more fuel changes nothing -/
theorem red_more {rs : List Rl} (g : Good rs) : ∀ (n m : Nat) (p : W), p.length ≤ n → p.length ≤ m → red rs n p = red rs m p
  | 0, 0, p, _, _ => rfl
  | 0, m + 1, p, h, _ => by
    unfold red
    cases e : step1 rs p with
    | none => rfl
    | some q => have := step1_len g e; omega
  | n + 1, 0, p, _, h => by
    unfold red
    cases e : step1 rs p with
    | none => rfl
    | some q => have := step1_len g e; omega
  | n + 1, m + 1, p, h1, h2 => by
    unfold red
    cases e : step1 rs p with
    | none => rfl
    | some q =>
      have := step1_len g e
      exact red_more g n m q (by omega) (by omega)
theorem red_end {rs : List Rl} (g : Good rs) : ∀ (n : Nat) (p : W), p.length ≤ n → step1 rs (red rs n p) = none
  | 0, p, h => by
    show step1 rs p = none
    cases e : step1 rs p with
    | none => rfl
    | some q => have := step1_len g e; omega
  | n + 1, p, h => by
    unfold red
    cases e : step1 rs p with
    | none => exact e
    | some q =>
      have := step1_len g e
      exact red_end g n q (by omega)
theorem pileUp_snoc (rs : List Rl) (acc t : W) (c : Nat) : pileUp rs acc (t ++ [c]) = red rs ((pileUp rs acc t).length + 1) (pileUp rs acc t ++ [c]) := by
  unfold pileUp
  rw [List.foldl_append]
  rfl
theorem pileUp_append (rs : List Rl) (acc s t : W) : pileUp rs acc (s ++ t) = pileUp rs (pileUp rs acc s) t := by
  unfold pileUp
  rw [List.foldl_append]
theorem left_len {rs : List Rl} (g : Good rs) (t : W) : (left rs t).length ≤ t.length := by
  unfold left
  have key : ∀ (t acc : W), (pileUp rs acc t).length ≤ acc.length + t.length := by
    intro t
    induction t with
    | nil => intro acc; exact Nat.le_refl _
    | cons c t ih =>
      intro acc
      have h1 := ih (red rs (acc.length + 1) (acc ++ [c]))
      have h2 := red_len g (acc.length + 1) (acc ++ [c])
      rw [List.length_append, List.length_singleton] at h2
      show (pileUp rs (red rs (acc.length + 1) (acc ++ [c])) t).length ≤ _
      rw [List.length_cons]
      omega
  have := key t []
  simpa using this

/-! ### the first rule with each left side -/
def firstK (k : Nat) : List (DKey × Dat) → List Rl → List (DKey × Dat)
  | acc, [] => acc
  | acc, r :: rs => firstK (k + 1) (if (valD acc (.s r.1)).isSome then acc else putKV acc (.s r.1) (.tup [.int (k : Int), .str r.2])) rs
def firstR (rs : List Rl) : List (DKey × Dat) := firstK 0 [] rs
theorem putKV_len {κ α : Type} [DecidableEq κ] (kvs : List (κ × α)) (k : κ) (v : α) : (putKV kvs k v).length ≤ kvs.length + 1 := by
  unfold putKV
  split
  · rw [List.length_map]; omega
  · rw [List.length_append, List.length_singleton]; omega
theorem firstK_len : ∀ (rs : List Rl) (k : Nat) (acc : List (DKey × Dat)), (firstK k acc rs).length ≤ acc.length + rs.length
  | [], _, _ => by unfold firstK; simp
  | r :: rs, k, acc => by
    unfold firstK
    have h := firstK_len rs (k + 1) (if (valD acc (.s r.1)).isSome then acc else putKV acc (.s r.1) (.tup [.int (k : Int), .str r.2]))
    have h2 : (if (valD acc (.s r.1)).isSome then acc else putKV acc (.s r.1) (.tup [.int (k : Int), .str r.2])).length ≤ acc.length + 1 := by
      split
      · omega
      · exact putKV_len _ _ _
    rw [List.length_cons]
    omega
theorem firstK_snoc : ∀ (rs : List Rl) (k : Nat) (acc : List (DKey × Dat)) (r : Rl), firstK k acc (rs ++ [r]) = (if (valD (firstK k acc rs) (.s r.1)).isSome then firstK k acc rs else putKV (firstK k acc rs) (.s r.1) (.tup [.int ((k + rs.length : Nat) : Int), .str r.2]))
  | [], k, acc, r => by unfold firstK; unfold firstK; simp
  | q :: rs, k, acc, r => by
    rw [List.cons_append]
    show firstK (k + 1) _ (rs ++ [r]) = _
    rw [firstK_snoc rs (k + 1)]
    have e : k + 1 + rs.length = k + (q :: rs).length := by rw [List.length_cons]; omega
    rw [e]
    rfl
theorem valD_put_same {κ α : Type} [DecidableEq κ] (kvs : List (κ × α)) (k : κ) (v : α) : valD (putKV kvs k v) k = some v := by
  unfold putKV valD
  by_cases h : (kvs.any fun kv => decide (kv.1 = k)) = true
  · rw [if_pos h]
    induction kvs with
    | nil => simp at h
    | cons p r ih =>
      rw [List.map_cons, List.find?_cons]
      by_cases e : p.1 = k
      · rw [if_pos e]
        simp [e]
      · rw [if_neg e]
        have h2 : (r.any fun kv => decide (kv.1 = k)) = true := by
          rw [List.any_cons, decide_eq_false e, Bool.false_or] at h
          exact h
        rw [decide_eq_false e]
        exact ih h2
  · rw [if_neg h]
    have hn : kvs.find? (fun kv => decide (kv.1 = k)) = none := by
      rw [List.find?_eq_none]
      intro x hx hk
      exact h (List.any_eq_true.mpr ⟨x, hx, hk⟩)
    rw [List.find?_append, hn]
    simp
theorem valD_put_other {κ α : Type} [DecidableEq κ] (kvs : List (κ × α)) {k j : κ} (v : α) (h : j ≠ k) : valD (putKV kvs k v) j = valD kvs j := by
  unfold putKV valD
  split
  · induction kvs with
    | nil => rfl
    | cons p r ih =>
      rename_i hh
      rw [List.map_cons, List.find?_cons, List.find?_cons]
      by_cases e : p.1 = k
      · have e2 : ¬ p.1 = j := fun z => h (z.symm.trans e)
        rw [if_pos e]
        show (match decide (p.1 = j) with | true => _ | false => _ : Option _).map _ = _
        rw [decide_eq_false e2]
        by_cases h3 : (r.any fun kv => decide (kv.1 = k)) = true
        · exact ih h3
        · have : r.map (fun kv => if kv.1 = k then (kv.1, v) else kv) = r := by
            conv => rhs; rw [← List.map_id r]
            apply List.map_congr_left
            intro x hx
            rw [if_neg (fun e => h3 (List.any_eq_true.mpr ⟨x, hx, decide_eq_true e⟩))]
            rfl
          rw [this]
      · rw [if_neg e]
        by_cases e2 : p.1 = j
        · rw [decide_eq_true e2]
        · rw [decide_eq_false e2]
          have h3 : (r.any fun kv => decide (kv.1 = k)) = true := by
            rw [List.any_cons, decide_eq_false e, Bool.false_or] at hh
            exact hh
          exact ih h3
  · rw [List.find?_append]
    cases e : kvs.find? (fun kv => decide (kv.1 = j)) with
    | some x => rfl
    | none =>
      have h2 : ¬ k = j := fun z => h z.symm
      simp [h2]
/-- what the dict of first rules tells -/
theorem firstR_val (w : W) : ∀ rs : List Rl, (∀ r ∈ rs, r.1 ≠ w) ∧ valD (firstR rs) (.s w) = none ∨ ∃ (k : Nat) (r : Rl), rs[k]? = some r ∧ r.1 = w ∧ (∀ k' r', k' < k → rs[k']? = some r' → r'.1 ≠ w) ∧ valD (firstR rs) (.s w) = some (.tup [.int (k : Int), .str r.2]) := by
  intro rs
  unfold firstR
  have key : ∀ n, n ≤ rs.length → ((∀ r ∈ rs.take n, r.1 ≠ w) ∧ valD (firstK 0 [] (rs.take n)) (.s w) = none) ∨ ∃ (k : Nat) (r : Rl), rs[k]? = some r ∧ k < n ∧ r.1 = w ∧ (∀ k' r', k' < k → rs[k']? = some r' → r'.1 ≠ w) ∧ valD (firstK 0 [] (rs.take n)) (.s w) = some (.tup [.int (k : Int), .str r.2]) := by
    intro n
    induction n with
    | zero => intro _; left; exact ⟨by simp, rfl⟩
    | succ n ih =>
      intro hn
      have hg : rs[n]? = some rs[n] := List.getElem?_eq_getElem (by omega)
      rw [take_snoc hg, firstK_snoc, List.length_take, Nat.min_eq_left (by omega), Nat.zero_add]
      rcases ih (by omega) with ⟨h1, h2⟩ | ⟨k, r, h1, h2, h3, h4, h5⟩
      · by_cases e : rs[n].1 = w
        · right
          refine ⟨n, rs[n], hg, by omega, e, fun k' r' hk' hr' => h1 r' ?_, ?_⟩
          · exact List.mem_of_getElem? (i := k') (by rw [List.getElem?_take_of_lt hk']; exact hr')
          · rw [e, h2]
            rw [if_neg (by decide)]
            exact valD_put_same _ _ _
        · left
          refine ⟨fun r hr => ?_, ?_⟩
          · rcases List.mem_append.mp hr with hr | hr
            · exact h1 r hr
            · rw [List.mem_singleton] at hr
              rw [hr]; exact e
          · split
            · exact h2
            · rw [valD_put_other _ _ (fun z => e (by cases z; rfl))]
              exact h2
      · right
        refine ⟨k, r, h1, by omega, h3, h4, ?_⟩
        split
        · exact h5
        · rename_i hs
          rw [valD_put_other _ _ (fun z => hs (by cases z; rw [h5]; rfl))]
          exact h5
  rcases key rs.length (Nat.le_refl _) with ⟨h1, h2⟩ | ⟨k, r, h1, _, h3, h4, h5⟩
  · rw [List.take_length] at h1 h2
    exact .inl ⟨h1, h2⟩
  · rw [List.take_length] at h5
    exact .inr ⟨k, r, h1, h3, h4, h5⟩

/-! ### the best rule of sizes up to n -/
def longest (rs : List Rl) : Nat := rs.foldl (fun m r => max m r.1.length) 0
theorem longest_acc (rs : List Rl) : ∀ m, rs.foldl (fun m r => max m r.1.length) m = max m (longest rs) := by
  unfold longest
  induction rs with
  | nil => intro m; simp
  | cons r rs ih =>
    intro m
    rw [List.foldl_cons, List.foldl_cons, ih, ih (max 0 _)]
    omega
theorem le_longest {rs : List Rl} {r : Rl} (h : r ∈ rs) : r.1.length ≤ longest rs := by
  unfold longest
  induction rs with
  | nil => cases h
  | cons q rs ih =>
    rw [List.foldl_cons, longest_acc]
    rcases List.mem_cons.mp h with e | h
    · rw [e]; omega
    · have := ih h
      unfold longest
      omega
theorem longest_mem (rs : List Rl) : longest rs = 0 ∨ ∃ r ∈ rs, r.1.length = longest rs := by
  unfold longest
  induction rs with
  | nil => exact .inl rfl
  | cons q rs ih =>
    rw [List.foldl_cons, longest_acc]
    have e : longest rs = rs.foldl (fun m r => max m r.1.length) 0 := rfl
    by_cases h : longest rs ≤ q.1.length
    · right
      exact ⟨q, List.mem_cons_self, by omega⟩
    · rcases ih with z | ⟨r, hr, hl⟩
      · omega
      · right
        exact ⟨r, List.mem_cons_of_mem _ hr, by omega⟩
theorem longest_good {rs : List Rl} (g : Good rs) : longest rs ≤ 4 := by
  rcases longest_mem rs with h | ⟨r, hr, h⟩
  · omega
  · have := (g r hr).2.1
    omega
/-- (number, size, right) of the first rule with a left side of at most n signs at the end of p -/
def Best (rs : List Rl) (p : W) (n : Nat) : Option (Nat × Nat × W) → Prop
  | none => ∀ r ∈ rs, r.1.length ≤ n → endsB p r.1 = false
  | some (k, z, t) => ∃ r, rs[k]? = some r ∧ r.1.length = z ∧ r.2 = t ∧ z ≤ n ∧ endsB p r.1 = true ∧ ∀ k' r', k' < k → rs[k']? = some r' → r'.1.length ≤ n → endsB p r'.1 = false
theorem suffix_of {p l : W} {n : Nat} (hl : l.length = n) (h : endsB p l = true) : p.drop (p.length - n) = l := by
  subst hl
  unfold endsB at h
  rw [Bool.and_eq_true, beq_iff_eq] at h
  exact h.2
theorem ends_drop {p : W} {n : Nat} (h : n ≤ p.length) : endsB p (p.drop (p.length - n)) = true := by
  rw [endsB_iff]
  exact ⟨p.take (p.length - n), (List.take_append_drop _ _).symm⟩
theorem ends_len {p l : W} (h : endsB p l = true) : l.length ≤ p.length := by
  obtain ⟨u, rfl⟩ := endsB_iff.mp h
  rw [List.length_append]; omega
theorem best_zero {rs : List Rl} (g : Good rs) (p : W) : Best rs p 0 none := fun r hr hl => by
  have := (g r hr).1
  omega
theorem best_step {rs : List Rl} {p : W} {n : Nat} {o : Option (Nat × Nat × W)} (hn : n + 1 ≤ p.length) (b : Best rs p n o) :
    ((∀ r ∈ rs, r.1 ≠ p.drop (p.length - (n + 1))) → Best rs p (n + 1) o) ∧
    ∀ k r, rs[k]? = some r → r.1 = p.drop (p.length - (n + 1)) → (∀ k' r', k' < k → rs[k']? = some r' → r'.1 ≠ p.drop (p.length - (n + 1))) →
      match o with
      | none => Best rs p (n + 1) (some (k, n + 1, r.2))
      | some (k0, _, _) => if k < k0 then Best rs p (n + 1) (some (k, n + 1, r.2)) else Best rs p (n + 1) o := by
  have small : ∀ r : Rl, r.1.length ≤ n + 1 → r.1 ≠ p.drop (p.length - (n + 1)) → endsB p r.1 = true → r.1.length ≤ n := fun r h1 h2 h3 => by
    by_cases e : r.1.length = n + 1
    · exact absurd (suffix_of e h3).symm h2
    · omega
  constructor
  · intro hno
    cases o with
    | none =>
      intro r hr hl
      cases e : endsB p r.1 with
      | false => rfl
      | true => rw [b r hr (small r hl (hno r hr) e)] at e; cases e
    | some x =>
      obtain ⟨k, z, t⟩ := x
      obtain ⟨r, h1, h2, h3, h4, h5, h6⟩ := b
      refine ⟨r, h1, h2, h3, by omega, h5, fun k' r' hk' hr' hl => ?_⟩
      cases e : endsB p r'.1 with
      | false => rfl
      | true => rw [h6 k' r' hk' hr' (small r' hl (hno r' (List.mem_of_getElem? hr')) e)] at e; cases e
  · intro k r hk hr hf
    have hlen : r.1.length = n + 1 := by rw [hr, List.length_drop]; omega
    have hend : endsB p r.1 = true := by rw [hr]; exact ends_drop hn
    cases o with
    | none =>
      refine ⟨r, hk, hlen, rfl, Nat.le_refl _, hend, fun k' r' hk' hr' hl => ?_⟩
      cases e : endsB p r'.1 with
      | false => rfl
      | true => rw [b r' (List.mem_of_getElem? hr') (small r' hl (hf k' r' hk' hr') e)] at e; cases e
    | some x =>
      obtain ⟨k0, z, t⟩ := x
      obtain ⟨r0, h1, h2, h3, h4, h5, h6⟩ := b
      show if k < k0 then _ else _
      by_cases hlt : k < k0
      · rw [if_pos hlt]
        refine ⟨r, hk, hlen, rfl, Nat.le_refl _, hend, fun k' r' hk' hr' hl => ?_⟩
        cases e : endsB p r'.1 with
        | false => rfl
        | true => rw [h6 k' r' (by omega) hr' (small r' hl (hf k' r' hk' hr') e)] at e; cases e
      · rw [if_neg hlt]
        refine ⟨r0, h1, h2, h3, by omega, h5, fun k' r' hk' hr' hl => ?_⟩
        cases e : endsB p r'.1 with
        | false => rfl
        | true =>
          by_cases e2 : r'.1 = p.drop (p.length - (n + 1))
          · exact absurd e2 (hf k' r' (by omega) hr')
          · rw [h6 k' r' hk' hr' (small r' hl e2 e)] at e; cases e
theorem best_fit {rs : List Rl} {p : W} {n : Nat} {o : Option (Nat × Nat × W)} (hn : ∀ r ∈ rs, endsB p r.1 = true → r.1.length ≤ n) (b : Best rs p n o) : step1 rs p = o.map fun x => p.take (p.length - x.2.1) ++ x.2.2 := by
  unfold step1
  cases o with
  | none =>
    have : fit rs p = none := List.find?_eq_none.mpr fun r hr h => by
      have h : endsB p r.1 = true := h
      rw [b r hr (hn r hr h)] at h
      cases h
    rw [this]
    rfl
  | some x =>
    obtain ⟨k, z, t⟩ := x
    obtain ⟨r, h1, h2, h3, h4, h5, h6⟩ := b
    have : fit rs p = some r := by
      unfold fit
      rw [List.find?_eq_some_iff_getElem]
      have hk := get_lt h1
      refine ⟨h5, k, hk, ?_, fun j hj => ?_⟩
      · rw [List.getElem?_eq_getElem hk] at h1
        exact Option.some.inj h1
      · cases e : endsB p rs[j].1 with
        | false => rfl
        | true =>
          have hj2 : rs[j]? = some rs[j] := List.getElem?_eq_getElem (by omega)
          rw [h6 j _ hj hj2 (hn _ (List.mem_of_getElem? hj2) e)] at e
          cases e
    rw [this]
    show some (p.take (p.length - r.1.length) ++ r.2) = some (p.take (p.length - z) ++ t)
    rw [h2, h3]
theorem red_none {rs : List Rl} {q : W} (h : step1 rs q = none) : ∀ n, red rs n q = q
  | 0 => rfl
  | n + 1 => by unfold red; rw [h]
theorem red_some {rs : List Rl} (g : Good rs) {q q' : W} (h : step1 rs q = some q') : red rs q.length q = red rs q'.length q' := by
  have hl := step1_len g h
  obtain ⟨n, hn⟩ : ∃ n, q.length = n + 1 := ⟨q.length - 1, by omega⟩
  rw [hn]
  show (match step1 rs q with
    | none => q
    | some q => red rs n q) = _
  rw [h]
  exact red_more g n _ q' (by omega) (Nat.le_refl _)
theorem left_snoc {rs : List Rl} (t : W) (c : Nat) : left rs (t ++ [c]) = red rs (left rs t ++ [c]).length (left rs t ++ [c]) := by
  unfold left
  rw [pileUp_snoc, List.length_append]
  rfl
end WM

end

section
set_option maxHeartbeats 1000000
namespace WM
open BV
/-! ### how many texts there are -/
def InW (sg : W) (n : Nat) (w : W) : Prop := w.length ≤ n ∧ ∀ c ∈ w, c ∈ sg
def words (sg : W) : Nat → List W
  | 0 => [[]]
  | n + 1 => [] :: sg.flatMap fun c => (words sg n).map (c :: ·)
theorem mem_words {sg : W} : ∀ (n : Nat) (w : W), InW sg n w → w ∈ words sg n
  | 0, w, h => by
    have : w = [] := List.eq_nil_of_length_eq_zero (by have := h.1; omega)
    subst this
    exact List.mem_singleton.mpr rfl
  | n + 1, [], h => List.mem_cons_self
  | n + 1, c :: w, h => by
    refine List.mem_cons_of_mem _ (List.mem_flatMap.mpr ⟨c, h.2 c List.mem_cons_self, List.mem_map.mpr ⟨w, mem_words n w ⟨?_, fun d hd => h.2 d (List.mem_cons_of_mem _ hd)⟩, rfl⟩⟩)
    have := h.1
    rw [List.length_cons] at this
    omega
theorem flat_len {α β : Type} (f : α → List β) (m : Nat) : ∀ (xs : List α), (∀ x ∈ xs, (f x).length = m) → (xs.flatMap f).length = xs.length * m
  | [], _ => by simp
  | x :: xs, h => by
    rw [List.flatMap_cons, List.length_append, flat_len f m xs (fun y hy => h y (List.mem_cons_of_mem _ hy)), h x List.mem_cons_self, List.length_cons, Nat.add_mul, Nat.one_mul, Nat.add_comm]
def wn (k : Nat) : Nat → Nat
  | 0 => 1
  | n + 1 => 1 + k * wn k n
theorem words_len (sg : W) : ∀ n, (words sg n).length = wn sg.length n
  | 0 => rfl
  | n + 1 => by
    show (_ :: sg.flatMap _).length = 1 + _
    rw [List.length_cons, flat_len _ (wn sg.length n) sg (fun c hc => by rw [List.length_map, words_len sg n])]
    omega
theorem nodup_le {α : Type} [DecidableEq α] : ∀ (xs ys : List α), xs.Nodup → (∀ x ∈ xs, x ∈ ys) → xs.length ≤ ys.length
  | [], ys, _, _ => Nat.zero_le _
  | x :: xs, ys, hn, h => by
    rw [List.nodup_cons] at hn
    have hx := h x List.mem_cons_self
    have h2 := nodup_le xs (ys.erase x) hn.2 fun y hy => by
      have hne : y ≠ x := fun e => hn.1 (by rw [← e]; exact hy)
      exact (List.mem_erase_of_ne hne).mpr (h y (List.mem_cons_of_mem _ hy))
    rw [List.length_erase_of_mem hx] at h2
    have := List.length_pos_of_mem hx
    rw [List.length_cons]
    omega
theorem wn_mono {k k' : Nat} (h : k ≤ k') : ∀ n, wn k n ≤ wn k' n
  | 0 => Nat.le_refl _
  | n + 1 => by
    have := Nat.mul_le_mul h (wn_mono h n)
    show 1 + k * wn k n ≤ 1 + k' * wn k' n
    omega
theorem inW_le {sg : W} {n k : Nat} (hk : sg.length ≤ k) {xs : List W} (hn : xs.Nodup) (h : ∀ w ∈ xs, InW sg n w) : xs.length ≤ wn k n := by
  have h1 := nodup_le xs (words sg n) hn fun w hw => mem_words n w (h w hw)
  rw [words_len] at h1
  exact Nat.le_trans h1 (wn_mono hk n)
theorem inW_drop {sg w : W} {n k : Nat} (h : ∀ c ∈ w, c ∈ sg) (hk : k ≤ n) : InW sg n (w.drop (w.length - k)) :=
  ⟨by rw [List.length_drop]; omega, fun c hc => h c (List.mem_of_mem_drop hc)⟩

/-! ### steps -/
def Stp (rs : List Rl) (u v : W) : Prop := ∃ a b r, r ∈ rs ∧ u = a ++ r.1 ++ b ∧ v = a ++ r.2 ++ b
inductive Rch (rs : List Rl) : W → W → Prop
  | refl (u : W) : Rch rs u u
  | step {u v w : W} (h : Stp rs u v) (t : Rch rs v w) : Rch rs u w
theorem Rch.trans {rs : List Rl} {u v w : W} (h : Rch rs u v) (k : Rch rs v w) : Rch rs u w := by
  induction h with
  | refl _ => exact k
  | step h _ ih => exact .step h (ih k)
theorem Rch.one {rs : List Rl} {u v : W} (h : Stp rs u v) : Rch rs u v := .step h (.refl v)
theorem Stp.ctx {rs : List Rl} {u v : W} (a b : W) (h : Stp rs u v) : Stp rs (a ++ u ++ b) (a ++ v ++ b) := by
  obtain ⟨x, y, r, hr, rfl, rfl⟩ := h
  exact ⟨a ++ x, y ++ b, r, hr, by simp, by simp⟩
theorem Rch.ctx {rs : List Rl} {u v : W} (a b : W) (h : Rch rs u v) : Rch rs (a ++ u ++ b) (a ++ v ++ b) := by
  induction h with
  | refl _ => exact .refl _
  | step h _ ih => exact .step (h.ctx a b) ih
theorem Stp.len {rs : List Rl} (g : Good rs) {u v : W} (h : Stp rs u v) : v.length < u.length := by
  obtain ⟨a, b, r, hr, rfl, rfl⟩ := h
  have := (g r hr).1
  simp only [List.length_append]
  omega
theorem Rch.len {rs : List Rl} (g : Good rs) {u v : W} (h : Rch rs u v) : v.length ≤ u.length := by
  induction h with
  | refl _ => exact Nat.le_refl _
  | step h _ ih => have := h.len g; omega
def Irr (rs : List Rl) (u : W) : Prop := ∀ a b r, r ∈ rs → u ≠ a ++ r.1 ++ b
theorem Irr.no {rs : List Rl} {u v : W} (h : Irr rs u) (s : Stp rs u v) : False := by
  obtain ⟨a, b, r, hr, e, _⟩ := s
  exact h a b r hr e
theorem fit_none {rs : List Rl} {p : W} (h : step1 rs p = none) : ∀ r ∈ rs, endsB p r.1 = false := fun r hr => by
  unfold step1 at h
  cases e : fit rs p with
  | some x => rw [e] at h; cases h
  | none =>
    have := List.find?_eq_none.mp e r hr
    simpa using this
theorem fit_rch {rs : List Rl} {p q : W} (h : step1 rs p = some q) : Stp rs p q := by
  unfold step1 at h
  cases e : fit rs p with
  | none => rw [e] at h; cases h
  | some r =>
    rw [e] at h
    cases h
    obtain ⟨h1, h2⟩ := fit_some e
    obtain ⟨u, rfl⟩ := endsB_iff.mp h2
    refine ⟨u, [], r, h1, by simp, ?_⟩
    dsimp only
    rw [List.length_append, show u.length + r.1.length - r.1.length = u.length by omega, List.take_left]
    simp
theorem red_rch (rs : List Rl) : ∀ (n : Nat) (p : W), Rch rs p (red rs n p)
  | 0, p => .refl p
  | n + 1, p => by
    unfold red
    cases e : step1 rs p with
    | none => exact .refl p
    | some q => exact .step (fit_rch e) (red_rch rs n q)
/-- a pile whose beginning is an end and where no rule fits at the end is an end -/
theorem irr_snoc {rs : List Rl} {p : W} {c : Nat} (h : Irr rs p) (k : ∀ r ∈ rs, endsB (p ++ [c]) r.1 = false) : Irr rs (p ++ [c]) := fun a b r hr e => by
  rcases List.eq_nil_or_concat b with rfl | ⟨b', d, rfl⟩
  · have := k r hr
    rw [e, List.append_nil] at this
    rw [endsB_iff.mpr ⟨a, rfl⟩] at this
    cases this
  · rw [List.concat_eq_append, ← List.append_assoc] at e
    have := List.append_inj_left' e rfl
    exact h a b' r hr this
theorem irr_pre {rs : List Rl} {p q : W} (h : Irr rs (p ++ q)) : Irr rs p := fun a b r hr e => h a (b ++ q) r hr (by rw [e]; simp)
theorem irr_take {rs : List Rl} {p : W} (n : Nat) (h : Irr rs p) : Irr rs (p.take n) := irr_pre (q := p.drop n) (by rw [List.take_append_drop]; exact h)
/-- piles whose beginnings are ends stay so -/
theorem red_irr {rs : List Rl} (g : Good rs) : ∀ (n : Nat) (p : W), p.length ≤ n → Irr rs p.dropLast → Irr rs (red rs n p)
  | 0, p, h, hi => by
    show Irr rs p
    have : p = [] := List.eq_nil_of_length_eq_zero (by omega)
    subst this
    exact hi
  | n + 1, p, h, hi => by
    unfold red
    cases e : step1 rs p with
    | none =>
      show Irr rs p
      rcases List.eq_nil_or_concat p with rfl | ⟨q, c, rfl⟩
      · exact hi
      · rw [List.concat_eq_append, List.dropLast_concat] at hi
        rw [List.concat_eq_append] at e ⊢
        exact irr_snoc hi (fit_none e)
    | some q =>
      have hl := step1_len g e
      refine red_irr g n q (by omega) ?_
      unfold step1 at e
      cases e2 : fit rs p with
      | none => rw [e2] at e; cases e
      | some r =>
        rw [e2] at e
        cases e
        obtain ⟨h1, h2⟩ := fit_some e2
        have hg := g r h1
        have hl2 := ends_len h2
        have hp : Irr rs (p.take (p.length - r.1.length)) := by
          have := irr_take (p.length - r.1.length) hi
          rw [List.dropLast_eq_take, List.take_take, Nat.min_eq_left (by omega)] at this
          exact this
        dsimp only
        match e3 : r.2 with
        | [] =>
          rw [List.append_nil, List.dropLast_eq_take]
          exact irr_take _ hp
        | [d] => rw [List.dropLast_concat]; exact hp
        | d :: d' :: t => rw [e3] at hg; simp at hg
theorem irr_nil {rs : List Rl} (g : Good rs) : Irr rs [] := fun a b r hr e => by
  have := (g r hr).1
  have e := congrArg List.length e
  simp only [List.length_append, List.length_nil] at e
  omega
theorem left_irr {rs : List Rl} (g : Good rs) (t : W) : Irr rs (left rs t) := by
  have key : ∀ n, Irr rs (left rs (t.take n)) := by
    intro n
    induction n with
    | zero => exact irr_nil g
    | succ n ih =>
      by_cases h : n < t.length
      · rw [take_snoc (List.getElem?_eq_getElem h), left_snoc]
        refine red_irr g _ _ (Nat.le_refl _) ?_
        rw [List.dropLast_concat]
        exact ih
      · rw [List.take_of_length_le (by omega)] at ih ⊢
        exact ih
  have := key t.length
  rw [List.take_length] at this
  exact this
theorem left_rch (rs : List Rl) (t : W) : Rch rs t (left rs t) := by
  have key : ∀ n, Rch rs (t.take n) (left rs (t.take n)) := by
    intro n
    induction n with
    | zero => exact .refl _
    | succ n ih =>
      by_cases h : n < t.length
      · rw [take_snoc (List.getElem?_eq_getElem h), left_snoc]
        have := ih.ctx [] [t[n]]
        rw [List.nil_append, List.nil_append] at this
        exact this.trans (red_rch rs _ _)
      · rw [List.take_of_length_le (by omega)] at ih ⊢
        exact ih
  have := key t.length
  rw [List.take_length] at this
  exact this
theorem red_id {rs : List Rl} {p : W} (h : Irr rs p) (n : Nat) : red rs n p = p := by
  cases n with
  | zero => rfl
  | succ n =>
    unfold red
    cases e : step1 rs p with
    | none => rfl
    | some q => exact (h.no (fit_rch e)).elim
theorem left_id {rs : List Rl} {p : W} (h : Irr rs p) : left rs p = p := by
  have key : ∀ n, left rs (p.take n) = p.take n := by
    intro n
    induction n with
    | zero => rfl
    | succ n ih =>
      by_cases hn : n < p.length
      · have hi := irr_take (n + 1) h
        rw [take_snoc (List.getElem?_eq_getElem hn)] at hi ⊢
        rw [left_snoc, ih, red_id hi]
      · rw [List.take_of_length_le (by omega)] at ih ⊢
        exact ih
  have := key p.length
  rw [List.take_length] at this
  exact this
/-! ### settled books -/
def Conf (rs : List Rl) : Prop := ∀ u v, Stp rs u v → left rs u = left rs v
theorem Conf.rch {rs : List Rl} (c : Conf rs) {u v : W} (h : Rch rs u v) : left rs u = left rs v := by
  induction h with
  | refl _ => rfl
  | step h _ ih => rw [c _ _ h, ih]
/-- all overlaps resolve -/
def Res (rs : List Rl) : Prop := ∀ l r, l ∈ rs → r ∈ rs → ∀ p, p < l.1.length → (l.1.drop p).take (min (l.1.length - p) r.1.length) = r.1.take (min (l.1.length - p) r.1.length) →
  left rs (l.2 ++ (l.1 ++ r.1.drop (min (l.1.length - p) r.1.length)).drop l.1.length) = left rs ((l.1 ++ r.1.drop (min (l.1.length - p) r.1.length)).take p ++ r.2 ++ (l.1 ++ r.1.drop (min (l.1.length - p) r.1.length)).drop (p + r.1.length))
theorem conf_of {rs : List Rl} (g : Good rs) (h : Res rs) : Conf rs := by
  have main : ∀ n u, u.length ≤ n → ∀ v, Stp rs u v → left rs u = left rs v := by
    intro n
    induction n with
    | zero =>
      intro u hu v s
      have := s.len g
      omega
    | succ n ih =>
      intro u hu
      have ihr : ∀ w z, w.length ≤ n → Rch rs w z → left rs w = left rs z := by
        intro w z hw hz
        induction hz with
        | refl _ => rfl
        | step s t ih2 =>
          have := s.len g
          rw [ih _ hw _ s]
          exact ih2 (by omega)
      have two : ∀ (a0 b0 : W) (r0 : Rl) (a1 b1 : W) (r1 : Rl), r0 ∈ rs → r1 ∈ rs → u = a0 ++ r0.1 ++ b0 → u = a1 ++ r1.1 ++ b1 → a0.length ≤ a1.length → left rs (a0 ++ r0.2 ++ b0) = left rs (a1 ++ r1.2 ++ b1) := by
        intro a0 b0 r0 a1 b1 r1 h0 h1 e0 e1 hl
        have g0 := g r0 h0
        have g1 := g r1 h1
        have s0 : Stp rs u (a0 ++ r0.2 ++ b0) := ⟨a0, b0, r0, h0, e0, rfl⟩
        have s1 : Stp rs u (a1 ++ r1.2 ++ b1) := ⟨a1, b1, r1, h1, e1, rfl⟩
        have l0 := s0.len g
        have l1 := s1.len g
        have hee : a0 ++ (r0.1 ++ b0) = a1 ++ (r1.1 ++ b1) := by rw [← List.append_assoc, ← List.append_assoc, ← e0, ← e1]
        obtain ⟨d, rfl⟩ : ∃ d, a1 = a0 ++ d := by
          rcases List.append_eq_append_iff.mp hee with ⟨d, h, _⟩ | ⟨d, h, _⟩
          · exact ⟨d, h⟩
          · have : d = [] := List.eq_nil_of_length_eq_zero (by rw [h, List.length_append] at hl; omega)
            exact ⟨[], by rw [h, this]; simp⟩
        have hd : r0.1 ++ b0 = d ++ (r1.1 ++ b1) := by
          rw [List.append_assoc] at hee
          exact List.append_cancel_left hee
        by_cases hdl : r0.1.length ≤ d.length
        · obtain ⟨m, rfl⟩ : ∃ m, d = r0.1 ++ m := by
            rcases List.append_eq_append_iff.mp hd with ⟨m, h, _⟩ | ⟨m, h, _⟩
            · exact ⟨m, h⟩
            · have : m = [] := List.eq_nil_of_length_eq_zero (by rw [h, List.length_append] at hdl; omega)
              exact ⟨[], by rw [h, this]; simp⟩
          rw [List.append_assoc] at hd
          have hb := List.append_cancel_left hd
          subst hb
          have t0 : Stp rs (a0 ++ r0.2 ++ (m ++ (r1.1 ++ b1))) (a0 ++ r0.2 ++ m ++ r1.2 ++ b1) := ⟨a0 ++ r0.2 ++ m, b1, r1, h1, by simp, rfl⟩
          have t1 : Stp rs (a0 ++ (r0.1 ++ m) ++ r1.2 ++ b1) (a0 ++ r0.2 ++ m ++ r1.2 ++ b1) := ⟨a0, m ++ r1.2 ++ b1, r0, h0, by simp, by simp⟩
          rw [ih _ (by omega) _ t0, ih _ (by omega) _ t1]
        · have hp : d.length < r0.1.length := by omega
          obtain ⟨q, hq⟩ : ∃ q, r0.1 = d ++ q := by
            rcases List.append_eq_append_iff.mp hd with ⟨m, h, _⟩ | ⟨m, h, _⟩
            · exact ⟨[], by
                have : m = [] := List.eq_nil_of_length_eq_zero (by rw [h, List.length_append] at hp; omega)
                rw [h, this]; simp⟩
            · exact ⟨m, h⟩
          have hq2 : q ++ b0 = r1.1 ++ b1 := by
            rw [hq, List.append_assoc] at hd
            exact List.append_cancel_left hd
          have hql : r0.1.length - d.length = q.length := by rw [hq, List.length_append]; omega
          have hR := h r0 r1 h0 h1 d.length hp
          rw [hql] at hR
          have hdq : r0.1.drop d.length = q := by rw [hq, List.drop_left]
          rw [hdq] at hR
          obtain ⟨c, hc1, hc2⟩ : ∃ c, b0 = r1.1.drop (min q.length r1.1.length) ++ c ∧ q.take (min q.length r1.1.length) = r1.1.take (min q.length r1.1.length) ∧ (r0.1 ++ r1.1.drop (min q.length r1.1.length)).drop (d.length + r1.1.length) ++ c = b1 := by
            rcases List.append_eq_append_iff.mp hq2 with ⟨m, hm1, hm2⟩ | ⟨m, hm1, hm2⟩
            · refine ⟨b1, ?_, ?_, ?_⟩
              · rw [hm2, Nat.min_eq_left (by rw [hm1, List.length_append]; omega), hm1, List.drop_left]
              · rw [Nat.min_eq_left (by rw [hm1, List.length_append]; omega), hm1, List.take_left, List.take_length]
              · rw [Nat.min_eq_left (by rw [hm1, List.length_append]; omega), hm1, List.drop_left, hq, List.drop_of_length_le (by simp), List.nil_append]
            · refine ⟨b0, ?_, ?_, ?_⟩
              · rw [Nat.min_eq_right (by rw [hm1, List.length_append]; omega), List.drop_length, List.nil_append]
              · rw [Nat.min_eq_right (by rw [hm1, List.length_append]; omega), hm1, List.take_left, List.take_length]
              · rw [Nat.min_eq_right (by rw [hm1, List.length_append]; omega), List.drop_length, List.append_nil, hq, hm1, ← List.append_assoc, hm2]
                rw [show d.length + r1.1.length = (d ++ r1.1).length by rw [List.length_append], List.drop_left]
          have hR := hR hc2.1
          have hc2 := hc2.2
          generalize hx : r0.2 ++ (r0.1 ++ r1.1.drop (min q.length r1.1.length)).drop r0.1.length = x at hR
          generalize hy : (r0.1 ++ r1.1.drop (min q.length r1.1.length)).take d.length ++ r1.2 ++ (r0.1 ++ r1.1.drop (min q.length r1.1.length)).drop (d.length + r1.1.length) = y at hR
          have ex : a0 ++ r0.2 ++ b0 = a0 ++ x ++ c := by
            rw [← hx, List.drop_left, hc1]
            simp
          have ey : a0 ++ d ++ r1.2 ++ b1 = a0 ++ y ++ c := by
            rw [← hy, ← hc2, List.take_append_of_le_length (by omega)]
            have : r0.1.take d.length = d := by rw [hq, List.take_left]
            rw [this]
            simp
          rw [ex] at l0 ⊢
          rw [ey] at l1 ⊢
          rw [ihr _ _ (by omega) ((left_rch rs x).ctx a0 c), ihr _ _ (by omega) ((left_rch rs y).ctx a0 c), hR]
      intro v s
      -- the first step of the pile's run
      obtain ⟨a1, b1, r1, h1, e1, e2⟩ := s
      have hv := Stp.len g ⟨a1, b1, r1, h1, e1, e2⟩
      have hfirst : ∃ v0, Stp rs u v0 ∧ Rch rs v0 (left rs u) := by
        have cs : ∀ w, Rch rs u w → u = w ∨ ∃ v0, Stp rs u v0 ∧ Rch rs v0 w := fun w hw => by
          cases hw with
          | refl _ => exact .inl rfl
          | step s t => exact .inr ⟨_, s, t⟩
        rcases cs _ (left_rch rs u) with hz | h
        · have hi := left_irr g u
          rw [← hz] at hi
          exact (hi.no ⟨a1, b1, r1, h1, e1, e2⟩).elim
        · exact h
      obtain ⟨v0, s0, t0⟩ := hfirst
      have hv0 := s0.len g
      have e3 := ihr v0 _ (by omega) t0
      rw [left_id (left_irr g u)] at e3
      obtain ⟨a0, b0, r0, h0, f1, f2⟩ := s0
      rw [← e3, f2, e2]
      rcases Nat.le_total a0.length a1.length with h | h
      · exact two a0 b0 r0 a1 b1 r1 h0 h1 f1 e1 h
      · exact (two a1 b1 r1 a0 b0 r0 h1 h0 e1 f1 h).symm
  exact fun u v s => main u.length u (Nat.le_refl _) v s
end WM

end

section
set_option maxHeartbeats 1000000
namespace WM
open BV
/-! ### books that can be looked through -/
def rpB (rs : List Rl) (l r : Rl) (p : Nat) : Bool :=
  let m := min (l.1.length - p) r.1.length
  !((l.1.drop p).take m == r.1.take m) || left rs (l.2 ++ (l.1 ++ r.1.drop m).drop l.1.length) == left rs ((l.1 ++ r.1.drop m).take p ++ r.2 ++ (l.1 ++ r.1.drop m).drop (p + r.1.length))
def resB (rs : List Rl) : Bool := rs.all fun l => rs.all fun r => (List.range l.1.length).all fun p => rpB rs l r p
theorem res_of {rs : List Rl} (h : resB rs = true) : Res rs := fun l r hl hr p hp e => by
  unfold resB at h
  have h1 := List.all_eq_true.mp (List.all_eq_true.mp (List.all_eq_true.mp h l hl) r hr) p (List.mem_range.mpr hp)
  unfold rpB at h1
  simp only [Bool.or_eq_true, Bool.not_eq_true', beq_eq_false_iff_ne, beq_iff_eq] at h1
  rcases h1 with h1 | h1
  · exact absurd e h1
  · exact h1
/-- table rules -/
def tabAt (k n i j : Nat) : Option Nat :=
  let t : Int := ((i + j + 2 : Nat) : Int) % ((n + 1 : Nat) : Int) - 1
  let z : Int := [(i : Int), j, max i j, 0, min i j, n - 1, t, t].getD k 0
  if z < 0 then none else some z.toNat
def tabRules (sg : W) (k : Nat) : List Rl := (List.range sg.length).flatMap fun i => (List.range sg.length).map fun j => ([sg.getD i 0, sg.getD j 0], match tabAt k sg.length i j with | none => [] | some z => [sg.getD z 0])
def knownMenu (a b : Nat) : List (List Rl) := [[([a, a, a], [a])], [([a, a], [])], [([a, a, a], [])], [([a, a], [a])], [([a, b, a], [a])], [([b, a], [a])], [([a, b], [a]), ([b, b], [b])], [([a, b, b], [a])], [([a, b], []), ([b, a], []), ([a, a], [b]), ([b, b], [a])], [([a, b], [a]), ([a, a], [a])], [([a, b, a, b], [])], [([a, b], [b]), ([a, a], [a])]]
def Signs : List W := [[97, 98], [97, 98, 99], [97, 99], [98, 122], [97], [98, 99, 100], [107, 109, 122], [120, 121]]
theorem tables_res : (Signs.all fun sg => (List.range 8).all fun k => resB (tabRules sg k)) = true := by decide +kernel
theorem known4_res : (Signs.all fun sg => ((knownMenu (sg.getD 0 0) (sg.getD (sg.length - 1) 0)).take 4).all resB) = true := by decide +kernel
theorem way1_res : (Signs.all fun sg => sg.length == 1 || (resB [(sg.take 2, [])] && resB [(sg.take 2, []), ([sg.getD 1 0, sg.getD 0 0], [])])) = true := by decide +kernel
end WM

end

section
/-! Runs that lead from text to text, in plain Lean. -/
namespace WM
def stepAt (rs : List Rl) (t : W) (p k : Nat) : Option W := match rs[k]? with
  | none => none
  | some r => if p ≤ t.length ∧ (t.drop p).take r.1.length = r.1 then some (t.take p ++ r.2 ++ t.drop (p + r.1.length)) else none
def leads (rs : List Rl) : W → List (Nat × Nat) → Option W
  | t, [] => some t
  | t, s :: run => match stepAt rs t s.1 s.2 with
    | none => none
    | some u => leads rs u run
theorem stepAt_inv {rs : List Rl} {t u : W} {p k : Nat} (h : stepAt rs t p k = some u) : ∃ r, rs[k]? = some r ∧ p ≤ t.length ∧ (t.drop p).take r.1.length = r.1 ∧ u = t.take p ++ r.2 ++ t.drop (p + r.1.length) := by
  unfold stepAt at h
  cases e : rs[k]? with
  | none => rw [e] at h; cases h
  | some r =>
    rw [e] at h
    dsimp only at h
    split at h
    · rename_i hc
      cases h
      exact ⟨r, rfl, hc.1, hc.2, rfl⟩
    · cases h
theorem stepAt_of {rs : List Rl} {t : W} {p k : Nat} {r : Rl} (h1 : rs[k]? = some r) (h2 : p ≤ t.length) (h3 : (t.drop p).take r.1.length = r.1) : stepAt rs t p k = some (t.take p ++ r.2 ++ t.drop (p + r.1.length)) := by
  unfold stepAt
  rw [h1]
  dsimp only
  rw [if_pos ⟨h2, h3⟩]
theorem stepAt_fit {rs : List Rl} {t u : W} {p k : Nat} {r : Rl} (h : stepAt rs t p k = some u) (e : rs[k]? = some r) : p + r.1.length ≤ t.length := by
  obtain ⟨r', h1, h2, h3, _⟩ := stepAt_inv h
  rw [e] at h1
  cases h1
  have := congrArg List.length h3
  rw [List.length_take, List.length_drop] at this
  omega
theorem stepAt_stp {rs : List Rl} {t u : W} {p k : Nat} (h : stepAt rs t p k = some u) : Stp rs t u := by
  obtain ⟨r, h1, h2, h3, rfl⟩ := stepAt_inv h
  refine ⟨t.take p, t.drop (p + r.1.length), r, List.mem_of_getElem? h1, ?_, rfl⟩
  conv => lhs; rw [← List.take_append_drop p t, ← List.take_append_drop r.1.length (t.drop p), h3, List.drop_drop]
  rw [List.append_assoc]
theorem stepAt_len {rs : List Rl} (g : Good rs) {t u : W} {p k : Nat} (h : stepAt rs t p k = some u) : u.length < t.length := (stepAt_stp h).len g
theorem leads_rch {rs : List Rl} : ∀ {run : List (Nat × Nat)} {t u : W}, leads rs t run = some u → Rch rs t u
  | [], t, u, h => by cases h; exact .refl _
  | s :: run, t, u, h => by
    unfold leads at h
    cases e : stepAt rs t s.1 s.2 with
    | none => rw [e] at h; cases h
    | some v =>
      rw [e] at h
      exact .trans (.one (stepAt_stp e)) (leads_rch h)
theorem leads_cons {rs : List Rl} {t u v : W} {p k : Nat} {run : List (Nat × Nat)} (h : stepAt rs t p k = some v) (g : leads rs v run = some u) : leads rs t ((p, k) :: run) = some u := by
  unfold leads
  rw [h]
  exact g
theorem leads_inv {rs : List Rl} {t u : W} {s : Nat × Nat} {run : List (Nat × Nat)} (h : leads rs t (s :: run) = some u) : ∃ v, stepAt rs t s.1 s.2 = some v ∧ leads rs v run = some u := by
  unfold leads at h
  cases e : stepAt rs t s.1 s.2 with
  | none => rw [e] at h; cases h
  | some v => rw [e] at h; exact ⟨v, rfl, h⟩
theorem leads_append {rs : List Rl} {b : List (Nat × Nat)} : ∀ {a : List (Nat × Nat)} {t u v : W}, leads rs t a = some u → leads rs u b = some v → leads rs t (a ++ b) = some v
  | [], t, u, v, h, g => by cases h; exact g
  | s :: a, t, u, v, h, g => by
    obtain ⟨w, h1, h2⟩ := leads_inv h
    exact leads_cons h1 (leads_append h2 g)
theorem leads_snoc {rs : List Rl} {a : List (Nat × Nat)} {t u v : W} {p k : Nat} (h : leads rs t a = some u) (g : stepAt rs u p k = some v) : leads rs t (a ++ [(p, k)]) = some v := leads_append h (leads_cons g rfl)
theorem leads_len {rs : List Rl} (g : Good rs) : ∀ {run : List (Nat × Nat)} {t u : W}, leads rs t run = some u → u.length + run.length ≤ t.length
  | [], t, u, h => by cases h; exact Nat.le_refl _
  | s :: run, t, u, h => by
    obtain ⟨w, h1, h2⟩ := leads_inv h
    have := leads_len g h2
    have := stepAt_len g h1
    rw [List.length_cons]
    omega
theorem irr_iff {rs : List Rl} {t : W} : Irr rs t ↔ ∀ p k, p ≤ t.length → stepAt rs t p k = none := by
  constructor
  · intro h p k hp
    cases e : stepAt rs t p k with
    | none => rfl
    | some u => exact (h.no (stepAt_stp e)).elim
  · intro h a b r hr e
    obtain ⟨k, hk, hr⟩ := List.mem_iff_getElem.mp hr
    have h1 : rs[k]? = some r := by rw [List.getElem?_eq_getElem hk, hr]
    have h2 := h a.length k (by rw [e]; simp only [List.length_append]; omega)
    rw [stepAt_of h1 (by rw [e]; simp only [List.length_append]; omega) (by rw [e, List.append_assoc, List.drop_left, List.take_left])] at h2
    cases h2
/-- no step at the end of the text: left sides are not empty -/
theorem stepAt_lt {rs : List Rl} (g : Good rs) {t u : W} {p k : Nat} (h : stepAt rs t p k = some u) : p < t.length ∧ k < rs.length := by
  obtain ⟨r, h1, h2, h3, _⟩ := stepAt_inv h
  have h4 := stepAt_fit h h1
  have h5 := g r (List.mem_of_getElem? h1)
  have h6 : k < rs.length := (List.getElem?_eq_some_iff.mp h1).1
  omega
theorem Conf.irr {rs : List Rl} (c : Conf rs) {t u : W} (h : Rch rs t u) (i : Irr rs u) : u = left rs t := by
  rw [c.rch h, left_id i]
/-- the step that the pile takes is a step of the whole text -/
theorem pile_step {rs : List Rl} {q rest : W} {k : Nat} {r : Rl} (h1 : rs[k]? = some r) (h2 : endsB q r.1 = true) : stepAt rs (q ++ rest) (q.length - r.1.length) k = some (q.take (q.length - r.1.length) ++ r.2 ++ rest) := by
  have hl := ends_len h2
  have hd := suffix_of rfl h2
  have e3 : ((q ++ rest).drop (q.length - r.1.length)).take r.1.length = r.1 := by
    rw [List.drop_append_of_le_length (by omega), hd, List.take_append_of_le_length (Nat.le_refl _), List.take_length]
  rw [stepAt_of h1 (by rw [List.length_append]; omega) e3]
  congr 1
  rw [List.take_append_of_le_length (by omega), show q.length - r.1.length + r.1.length = q.length by omega, List.drop_left]
/-- the first rule that fits, with its number -/
def fitK (rs : List Rl) (p : W) : Option (Nat × Nat × W) → Prop
  | none => step1 rs p = none
  | some (k, z, t) => ∃ r, rs[k]? = some r ∧ r.1.length = z ∧ r.2 = t ∧ endsB p r.1 = true ∧ step1 rs p = some (p.take (p.length - z) ++ t)
end WM

end

section
/-! The verdict over an explanation, in plain Lean. -/
namespace WM
abbrev Run := List (Nat × Nat)
def irrB (rs : List Rl) (t : W) : Bool := (List.range (t.length + 1)).all fun p => (List.range rs.length).all fun k => (stepAt rs t p k).isNone
theorem irrB_iff {rs : List Rl} {t : W} : irrB rs t = true ↔ Irr rs t := by
  rw [irr_iff]
  unfold irrB
  rw [List.all_eq_true]
  constructor
  · intro h p k hp
    by_cases hk : k < rs.length
    · have := List.all_eq_true.mp (h p (List.mem_range.mpr (by omega))) k (List.mem_range.mpr hk)
      exact Option.isNone_iff_eq_none.mp this
    · unfold stepAt
      rw [List.getElem?_eq_none (by omega)]
  · intro h p hp
    rw [List.all_eq_true]
    intro k _
    rw [h p k (by have := List.mem_range.mp hp; omega)]
    rfl
theorem irrB_false {rs : List Rl} {t : W} (h : ¬ Irr rs t) : irrB rs t = false := by
  cases e : irrB rs t with
  | false => rfl
  | true => exact absurd (irrB_iff.mp e) h
def leadO (rs : List Rl) (t : W) : Option Run → Option W
  | none => none
  | some run => leads rs t run
def endOf (rs : List Rl) (t : W) (o : Option Run) : Option W := match leadO rs t o with
  | none => none
  | some u => if irrB rs u = true then some u else none
def verdict (ali unl : W) (rs : List Rl) (t u w : W) (o1 o2 : Option Run) : Int :=
  if w = ali ∨ w = unl then
    match endOf rs t o1 with
    | none => 1
    | some e1 => match endOf rs u o2 with
      | none => 2
      | some e2 => if decide (e1 = e2) = decide (w = ali) then -1 else 3
  else 0
def score (ali unl : W) (rs : List Rl) (t u : W) : Option (W × Option Run × Option Run) → Int
  | none => 0
  | some (w, o1, o2) => verdict ali unl rs t u w o1 o2
theorem endOf_none {rs : List Rl} {t : W} {o : Option Run} (h : leadO rs t o = none) : endOf rs t o = none := by
  unfold endOf
  rw [h]
theorem endOf_some {rs : List Rl} {t u : W} {o : Option Run} (h : leadO rs t o = some u) (i : Irr rs u) : endOf rs t o = some u := by
  unfold endOf
  rw [h]
  dsimp only
  rw [if_pos (irrB_iff.mpr i)]
theorem endOf_not {rs : List Rl} {t u : W} {o : Option Run} (h : leadO rs t o = some u) (i : ¬ Irr rs u) : endOf rs t o = none := by
  unfold endOf
  rw [h]
  dsimp only
  rw [irrB_false i]
  rfl
theorem endOf_len {rs : List Rl} (g : Good rs) {t u : W} {o : Option Run} (h : leadO rs t o = some u) : u.length ≤ t.length := by
  cases o with
  | none => cases h
  | some run => have := leads_len g h; omega
end WM

end

section
/-! All overlaps of a book, in order, in plain Lean. -/
namespace WM
structure Ov where
  (t : W) (i p j : Nat)
/-- the overlap of the rules i and j at the place p, if there is one -/
def ovOne (rs : List Rl) (i j p : Nat) : Option Ov := match rs[i]?, rs[j]? with
  | some l, some r =>
    if p = 0 ∧ j ≤ i then none
    else if (l.1.drop p).take (min (l.1.length - p) r.1.length) = r.1.take (min (l.1.length - p) r.1.length) then some ⟨l.1 ++ r.1.drop (min (l.1.length - p) r.1.length), i, p, j⟩ else none
  | _, _ => none
def ovP (rs : List Rl) (i j n : Nat) : List Ov := (List.range n).filterMap (ovOne rs i j)
def lenL (rs : List Rl) (i : Nat) : Nat := match rs[i]? with
  | some l => l.1.length
  | none => 0
def ovJ (rs : List Rl) (i n : Nat) : List Ov := (List.range n).flatMap fun j => ovP rs i j (lenL rs i)
def ovI (rs : List Rl) (n : Nat) : List Ov := (List.range n).flatMap fun i => ovJ rs i rs.length
def ovs (rs : List Rl) : List Ov := ovI rs rs.length
theorem ovP_succ (rs : List Rl) (i j n : Nat) : ovP rs i j (n + 1) = ovP rs i j n ++ (ovOne rs i j n).toList := by
  unfold ovP
  rw [List.range_succ, List.filterMap_append]
  congr 1
theorem ovJ_succ (rs : List Rl) (i n : Nat) : ovJ rs i (n + 1) = ovJ rs i n ++ ovP rs i n (lenL rs i) := by
  unfold ovJ
  rw [List.range_succ, List.flatMap_append]
  simp
theorem ovI_succ (rs : List Rl) (n : Nat) : ovI rs (n + 1) = ovI rs n ++ ovJ rs n rs.length := by
  unfold ovI
  rw [List.range_succ, List.flatMap_append]
  simp
theorem ovP_len (rs : List Rl) (i j n : Nat) : (ovP rs i j n).length ≤ n := by
  unfold ovP
  exact Nat.le_trans (List.length_filterMap_le _ _) (by rw [List.length_range]; exact Nat.le_refl _)
theorem lenL_le {rs : List Rl} (g : Good rs) (i : Nat) : lenL rs i ≤ 4 := by
  unfold lenL
  cases h : rs[i]? with
  | none => exact Nat.zero_le _
  | some l => exact (g l (List.mem_of_getElem? h)).2.1
theorem ovJ_len {rs : List Rl} (g : Good rs) (i : Nat) : ∀ n, (ovJ rs i n).length ≤ 4 * n
  | 0 => by simp [ovJ]
  | n + 1 => by
    rw [ovJ_succ, List.length_append]
    have := ovJ_len g i n
    have := ovP_len rs i n (lenL rs i)
    have := lenL_le g i
    omega
theorem ovI_len {rs : List Rl} (g : Good rs) (hn : rs.length ≤ 64) : ∀ n, (ovI rs n).length ≤ 256 * n
  | 0 => by simp [ovI]
  | n + 1 => by
    rw [ovI_succ, List.length_append]
    have := ovI_len g hn n
    have := ovJ_len g n rs.length
    omega
theorem ovOne_mem {rs : List Rl} {i j p : Nat} {o : Ov} (h : ovOne rs i j p = some o) : ∃ l r, rs[i]? = some l ∧ rs[j]? = some r ∧ o = ⟨l.1 ++ r.1.drop (min (l.1.length - p) r.1.length), i, p, j⟩ ∧ (l.1.drop p).take (min (l.1.length - p) r.1.length) = r.1.take (min (l.1.length - p) r.1.length) := by
  unfold ovOne at h
  cases h1 : rs[i]? with
  | none => rw [h1] at h; cases h
  | some l =>
    cases h2 : rs[j]? with
    | none => rw [h1, h2] at h; cases h
    | some r =>
      rw [h1, h2] at h
      dsimp only at h
      split at h
      · cases h
      · split at h
        · rename_i e
          cases h
          exact ⟨l, r, rfl, rfl, rfl, e⟩
        · cases h
end WM

end

section
/-! The least quarrel of a book, and its overlaps in order, in plain Lean. -/
namespace WM
open BV PyProof.Rows
def side1 (rs : List Rl) (o : Ov) : W := match rs[o.i]? with
  | some l => l.2 ++ o.t.drop l.1.length
  | none => []
def side2 (rs : List Rl) (o : Ov) : W := match rs[o.j]? with
  | some r => o.t.take o.p ++ r.2 ++ o.t.drop (o.p + r.1.length)
  | none => []
def Un (rs : List Rl) (o : Ov) : Prop := left rs (side1 rs o) ≠ left rs (side2 rs o)
theorem ovP_mem {rs : List Rl} {i j n : Nat} {o : Ov} : o ∈ ovP rs i j n ↔ ∃ p, p < n ∧ ovOne rs i j p = some o := by
  unfold ovP
  rw [List.mem_filterMap]
  simp only [List.mem_range]
theorem ovs_mem {rs : List Rl} {o : Ov} : o ∈ ovs rs ↔ ∃ i j p, i < rs.length ∧ j < rs.length ∧ p < lenL rs i ∧ ovOne rs i j p = some o := by
  unfold ovs ovI ovJ
  simp only [List.mem_flatMap, List.mem_range, ovP_mem]
  constructor
  · rintro ⟨i, hi, j, hj, p, hp, e⟩; exact ⟨i, j, p, hi, hj, hp, e⟩
  · rintro ⟨i, j, p, hi, hj, hp, e⟩; exact ⟨i, hi, j, hj, p, hp, e⟩
/-- what an overlap is -/
theorem ov_is {rs : List Rl} {o : Ov} (h : o ∈ ovs rs) : ∃ l r, rs[o.i]? = some l ∧ rs[o.j]? = some r ∧ o.p < l.1.length ∧ o.t = l.1 ++ r.1.drop (min (l.1.length - o.p) r.1.length) ∧ (l.1.drop o.p).take (min (l.1.length - o.p) r.1.length) = r.1.take (min (l.1.length - o.p) r.1.length) := by
  obtain ⟨i, j, p, hi, hj, hp, e⟩ := ovs_mem.mp h
  obtain ⟨l, r, hl, hr, rfl, hm⟩ := ovOne_mem e
  refine ⟨l, r, hl, hr, ?_, rfl, hm⟩
  unfold lenL at hp
  rw [hl] at hp
  exact hp
/-- two rules match at a place -/
def Mt (l r : Rl) (p : Nat) : Prop := (l.1.drop p).take (min (l.1.length - p) r.1.length) = r.1.take (min (l.1.length - p) r.1.length)
def mtT (l r : Rl) (p : Nat) : W := l.1 ++ r.1.drop (min (l.1.length - p) r.1.length)
def mtU (rs : List Rl) (l r : Rl) (p : Nat) : Prop := left rs (l.2 ++ (mtT l r p).drop l.1.length) ≠ left rs ((mtT l r p).take p ++ r.2 ++ (mtT l r p).drop (p + r.1.length))
theorem mtT0 {l r : Rl} (h : Mt l r 0) : mtT r l 0 = mtT l r 0 := by
  unfold Mt at h
  unfold mtT
  rw [List.drop_zero, Nat.sub_zero] at h
  rw [Nat.sub_zero, Nat.sub_zero]
  by_cases c : l.1.length ≤ r.1.length
  · rw [Nat.min_eq_left c, List.take_length] at h
    rw [Nat.min_eq_left c, Nat.min_eq_right c, List.drop_length, List.append_nil]
    conv => rhs; lhs; rw [h]
    rw [List.take_append_drop]
  · rw [Nat.min_eq_right (by omega), List.take_length] at h
    rw [Nat.min_eq_right (a := l.1.length) (by omega), Nat.min_eq_left (a := r.1.length) (by omega), List.drop_length, List.append_nil]
    conv => lhs; lhs; rw [← h]
    rw [List.take_append_drop]
theorem ov_of {rs : List Rl} (g : Good rs) {l r : Rl} {p : Nat} (hl : l ∈ rs) (hr : r ∈ rs) (hp : p < l.1.length) (hm : Mt l r p) (hu : mtU rs l r p) : ∃ v ∈ ovs rs, Un rs v ∧ v.t = mtT l r p := by
  obtain ⟨i, hi, el⟩ := List.mem_iff_getElem.mp hl
  obtain ⟨j, hj, er⟩ := List.mem_iff_getElem.mp hr
  have hl' : rs[i]? = some l := by rw [List.getElem?_eq_getElem hi, el]
  have hr' : rs[j]? = some r := by rw [List.getElem?_eq_getElem hj, er]
  by_cases c : p = 0 ∧ j ≤ i
  · obtain ⟨rfl, c⟩ := c
    have hne : i ≠ j := fun e => by
      subst e
      rw [hl'] at hr'
      cases hr'
      exact hu (by rw [List.take_zero, List.nil_append, Nat.zero_add])
    have hm' : (r.1.drop 0).take (min (r.1.length - 0) l.1.length) = l.1.take (min (r.1.length - 0) l.1.length) := by
      unfold Mt at hm
      rw [List.drop_zero, Nat.sub_zero] at hm ⊢
      rw [Nat.min_comm, hm]
    have hr0 : 0 < r.1.length := by have := (g r hr).1; omega
    refine ⟨⟨mtT r l 0, j, 0, i⟩, ovs_mem.mpr ⟨j, i, 0, hj, hi, ?_, ?_⟩, ?_, mtT0 hm⟩
    · unfold lenL; rw [hr']; exact hr0
    · unfold ovOne
      rw [hl', hr']
      dsimp only
      rw [if_neg (by omega), if_pos hm']
      rfl
    · unfold Un side1 side2
      dsimp only
      rw [hl', hr']
      dsimp only
      rw [mtT0 hm, List.take_zero, List.nil_append, Nat.zero_add]
      intro e
      refine hu ?_
      rw [List.take_zero, List.nil_append, Nat.zero_add]
      exact e.symm
  · refine ⟨⟨mtT l r p, i, p, j⟩, ovs_mem.mpr ⟨i, j, p, hi, hj, ?_, ?_⟩, ?_, rfl⟩
    · unfold lenL; rw [hl']; exact hp
    · unfold ovOne
      rw [hl', hr']
      dsimp only
      rw [if_neg c]
      exact if_pos hm
    · unfold Un side1 side2
      dsimp only
      rw [hl', hr']
      exact hu
theorem un_mt {rs : List Rl} {v : Ov} (h : v ∈ ovs rs) (hu : Un rs v) : ∃ l r, l ∈ rs ∧ r ∈ rs ∧ v.p < l.1.length ∧ Mt l r v.p ∧ mtU rs l r v.p ∧ v.t = mtT l r v.p := by
  obtain ⟨l, r, hl, hr, hp, ht, hm⟩ := ov_is h
  refine ⟨l, r, List.mem_of_getElem? hl, List.mem_of_getElem? hr, hp, hm, ?_, ht⟩
  unfold Un side1 side2 at hu
  rw [hl, hr] at hu
  dsimp only at hu
  unfold mtU
  have ht' : v.t = mtT l r v.p := ht
  rw [← ht']
  exact hu
/-! ### the least -/
def LeastQ (rs : List Rl) (o : Option W) : Prop := (∀ v ∈ ovs rs, Un rs v → ∃ w, o = some w ∧ kLt v.t w = false) ∧ ∀ w, o = some w → ∃ v ∈ ovs rs, Un rs v ∧ v.t = w
def LawQ (rs : List Rl) (o : Option W) : Prop := (∀ l ∈ rs, ∀ r ∈ rs, ∀ p, p < l.1.length → Mt l r p → mtU rs l r p → ∃ w, o = some w ∧ kLt (mtT l r p) w = false) ∧ ∀ w, o = some w → ∃ l r p, l ∈ rs ∧ r ∈ rs ∧ p < l.1.length ∧ Mt l r p ∧ mtU rs l r p ∧ mtT l r p = w
theorem LawQ.least {rs : List Rl} {o : Option W} (g : Good rs) (h : LawQ rs o) : LeastQ rs o := by
  constructor
  · intro v hv hu
    obtain ⟨l, r, hl, hr, hp, hm, hu', ht⟩ := un_mt hv hu
    rw [ht]
    exact h.1 l hl r hr _ hp hm hu'
  · intro w hw
    obtain ⟨l, r, p, hl, hr, hp, hm, hu, ht⟩ := h.2 w hw
    obtain ⟨v, hv, hu', e⟩ := ov_of g hl hr hp hm hu
    exact ⟨v, hv, hu', e.trans ht⟩
theorem LawQ.res {rs : List Rl} {o : Option W} (h : LawQ rs o) (e : o = none) : Res rs := fun l r hl hr p hp hm => Classical.byContradiction fun hu => by
  obtain ⟨w, hw, _⟩ := h.1 l hl r hr p hp hm hu
  rw [e] at hw
  cases hw
def key2 (a : W) : List BV.Atm := [Sum.inl (a.length : Int), Sum.inr a]
theorem kLt_key (a b : W) : kLt a b = (listOrd itemOrd).blt (key2 a) (key2 b) := by
  have h1 : ∀ x y : W, PyProof.Rows.itemOrd.blt (Sum.inl (x.length : Int)) (Sum.inl (y.length : Int)) = decide (x.length < y.length) := fun x y => by
    show decide ((x.length : Int) < (y.length : Int)) = _
    simp
  have h3 : PyProof.Rows.itemOrd.blt (Sum.inr a) (Sum.inr b) = decide (a < b) := rfl
  have h4 : PyProof.Rows.lexLt PyProof.Rows.itemOrd [] [] = false := rfl
  have lc := @PyProof.Rows.lex_cons PyProof.Rows.itemOrd
  show _ = PyProof.Rows.lexLt itemOrd (key2 a) (key2 b)
  unfold key2
  rw [lc, lc, h4, h1, h1, h3]
  unfold kLt
  by_cases e1 : a.length < b.length
  · simp [e1]
  · by_cases e2 : b.length < a.length
    · have e3 : ¬ a.length = b.length := by omega
      simp [e1, e2, e3]
    · have e3 : a.length = b.length := by omega
      simp [e1, e2, e3]
theorem kLt_total {a b : W} (h : kLt a b = false) (g : kLt b a = false) : a = b := by
  rw [kLt_key] at h g
  have := (listOrd itemOrd).total _ _ h g
  unfold key2 at this
  injection this with _ this
  injection this with this _
  injection this
theorem kLt_irrefl (a : W) : kLt a a = false := by
  rw [kLt_key]; exact (listOrd itemOrd).irrefl _
/-- u before w, w not behind v: v not before u -/
theorem kLt_step {u v w : W} (h : kLt u w = true) (g : kLt v w = false) : kLt v u = false := by
  rw [kLt_key] at *
  cases e : (listOrd itemOrd).blt (key2 v) (key2 u) with
  | false => rfl
  | true => rw [(listOrd itemOrd).trans _ _ _ e h] at g; cases g
theorem LeastQ.one {rs : List Rl} {o o' : Option W} (h : LeastQ rs o) (g : LeastQ rs o') : o = o' := by
  have main : ∀ {o o' : Option W}, LeastQ rs o → LeastQ rs o' → ∀ w, o = some w → ∃ w', o' = some w' ∧ kLt w w' = false := fun h g w e => by
    obtain ⟨v, hv, hu, rfl⟩ := h.2 w e
    exact g.1 v hv hu
  cases e : o with
  | none =>
    cases e' : o' with
    | none => rfl
    | some w' =>
      obtain ⟨w, hw, _⟩ := main g h w' e'
      rw [e] at hw; cases hw
  | some w =>
    obtain ⟨w', hw', k1⟩ := main h g w e
    obtain ⟨w2, hw2, k2⟩ := main g h w' hw'
    rw [e] at hw2
    cases hw2
    rw [hw', kLt_total k1 k2]
/-! ### going through -/
def QI (rs : List Rl) (seen : List Ov) (o : Option W) : Prop := (∀ v ∈ seen, Un rs v → ∃ w, o = some w ∧ kLt v.t w = false) ∧ ∀ w, o = some w → ∃ v ∈ ovs rs, Un rs v ∧ v.t = w
theorem QI.nil (rs : List Rl) : QI rs [] none := ⟨fun v h => absurd h (by simp), fun w h => nomatch h⟩
theorem QI.keep {rs : List Rl} {seen : List Ov} {o : Option W} {v : Ov} (h : QI rs seen o) (k : Un rs v → ∃ w, o = some w ∧ kLt v.t w = false) : QI rs (seen ++ [v]) o := ⟨fun u hu hn => by
  rcases List.mem_append.mp hu with hu | hu
  · exact h.1 u hu hn
  · rw [List.mem_singleton] at hu
    subst hu
    exact k hn, h.2⟩
theorem QI.put {rs : List Rl} {seen : List Ov} {o : Option W} {v : Ov} (h : QI rs seen o) (hv : v ∈ ovs rs) (hu : Un rs v) (k : ∀ w, o = some w → kLt v.t w = true) : QI rs (seen ++ [v]) (some v.t) := ⟨fun u hu' hn => by
  rcases List.mem_append.mp hu' with hu' | hu'
  · obtain ⟨w, hw, hl⟩ := h.1 u hu' hn
    exact ⟨_, rfl, kLt_step (k w hw) hl⟩
  · rw [List.mem_singleton] at hu'
    subst hu'
    exact ⟨_, rfl, kLt_irrefl _⟩, fun w hw => ⟨v, hv, hu, by cases hw; rfl⟩⟩
theorem QI.least {rs : List Rl} {o : Option W} (h : QI rs (ovs rs) o) : LeastQ rs o := h
theorem QI.len {rs : List Rl} (g : Good rs) {seen : List Ov} {o : Option W} (h : QI rs seen o) {w : W} (e : o = some w) : w.length ≤ 8 := by
  obtain ⟨v, hv, _, rfl⟩ := h.2 w e
  obtain ⟨l, r, hl, hr, _, ht, _⟩ := ov_is hv
  have gl := g l (List.mem_of_getElem? hl)
  have gr := g r (List.mem_of_getElem? hr)
  rw [ht, List.length_append, List.length_drop]
  omega
def LI (rs : List Rl) (seen : Rl → Rl → Nat → Prop) (o : Option W) : Prop := (∀ l r p, seen l r p → Mt l r p → mtU rs l r p → ∃ w, o = some w ∧ kLt (mtT l r p) w = false) ∧ ∀ w, o = some w → ∃ l r p, l ∈ rs ∧ r ∈ rs ∧ p < l.1.length ∧ Mt l r p ∧ mtU rs l r p ∧ mtT l r p = w
theorem LI.nil (rs : List Rl) {S : Rl → Rl → Nat → Prop} (h : ∀ l r p, ¬ S l r p) : LI rs S none := ⟨fun l r p hs => absurd hs (h l r p), fun w h => nomatch h⟩
theorem LI.sub {rs : List Rl} {S S' : Rl → Rl → Nat → Prop} {o : Option W} (h : LI rs S o) (k : ∀ l r p, S' l r p → S l r p) : LI rs S' o := ⟨fun l r p hs => h.1 l r p (k l r p hs), h.2⟩
theorem LI.keep {rs : List Rl} {S S' : Rl → Rl → Nat → Prop} {o : Option W} {l r : Rl} {p : Nat} (h : LI rs S o) (hs : ∀ l' r' p', S' l' r' p' → S l' r' p' ∨ (l' = l ∧ r' = r ∧ p' = p)) (k : Mt l r p → mtU rs l r p → ∃ w, o = some w ∧ kLt (mtT l r p) w = false) : LI rs S' o := ⟨fun l' r' p' hs' hm hu => by
  rcases hs l' r' p' hs' with z | ⟨rfl, rfl, rfl⟩
  · exact h.1 l' r' p' z hm hu
  · exact k hm hu, h.2⟩
theorem LI.put {rs : List Rl} {S S' : Rl → Rl → Nat → Prop} {o : Option W} {l r : Rl} {p : Nat} (h : LI rs S o) (hs : ∀ l' r' p', S' l' r' p' → S l' r' p' ∨ (l' = l ∧ r' = r ∧ p' = p)) (hl : l ∈ rs) (hr : r ∈ rs) (hp : p < l.1.length) (hm : Mt l r p) (hu : mtU rs l r p)
    (k : ∀ w, o = some w → kLt (mtT l r p) w = true) : LI rs S' (some (mtT l r p)) := ⟨fun l' r' p' hs' hm' hu' => by
  rcases hs l' r' p' hs' with z | ⟨rfl, rfl, rfl⟩
  · obtain ⟨w, hw, hl⟩ := h.1 l' r' p' z hm' hu'
    exact ⟨_, rfl, kLt_step (k w hw) hl⟩
  · exact ⟨_, rfl, kLt_irrefl _⟩, fun w hw => ⟨l, r, p, hl, hr, hp, hm, hu, by cases hw; rfl⟩⟩
theorem LI.len {rs : List Rl} (g : Good rs) {S : Rl → Rl → Nat → Prop} {o : Option W} (h : LI rs S o) {w : W} (e : o = some w) : w.length ≤ 8 := by
  obtain ⟨l, r, p, hl, hr, _, _, _, rfl⟩ := h.2 w e
  have gl := g l hl
  have gr := g r hr
  unfold mtT
  rw [List.length_append, List.length_drop]
  omega
theorem LI.law {rs : List Rl} {S : Rl → Rl → Nat → Prop} {o : Option W} (h : LI rs S o) (k : ∀ l ∈ rs, ∀ r ∈ rs, ∀ p, p < l.1.length → S l r p) : LawQ rs o := ⟨fun l hl r hr p hp => h.1 l r p (k l hl r hr p hp), h.2⟩
/-! ### in order -/
def keyO (o : Ov) : List BV.Atm := [Sum.inl (o.t.length : Int), Sum.inr o.t, Sum.inl (o.i : Int), Sum.inl (o.p : Int), Sum.inl (o.j : Int)]
theorem keyO_inj {a b : Ov} (h : keyO a = keyO b) : a = b := by
  obtain ⟨t, i, p, j⟩ := a
  obtain ⟨t', i', p', j'⟩ := b
  unfold keyO at h
  simp only [List.cons.injEq, Sum.inl.injEq, Sum.inr.injEq, Int.ofNat_inj, and_true] at h
  obtain ⟨_, rfl, rfl, rfl, rfl⟩ := h
  rfl
def unkey : List BV.Atm → Ov
  | [_, Sum.inr t, Sum.inl i, Sum.inl p, Sum.inl j] => ⟨t, i.toNat, p.toNat, j.toNat⟩
  | _ => ⟨[], 0, 0, 0⟩
theorem unkey_key (o : Ov) : unkey (keyO o) = o := rfl
/-- the overlaps in order -/
def Srt (rs : List Rl) (os : List Ov) : Prop := os.Perm (ovs rs) ∧ (os.map keyO).Pairwise BV.kle
theorem Srt.of {rs : List Rl} {ls : List (List BV.Atm)} (hp : ls.Perm ((ovs rs).map keyO)) (hs : ls.Pairwise BV.kle) : ∃ os, ls = os.map keyO ∧ Srt rs os := by
  have e : ls = (ls.map unkey).map keyO := by
    rw [List.map_map]
    conv => lhs; rw [← List.map_id ls]
    refine List.map_congr_left fun k hk => ?_
    obtain ⟨o, _, rfl⟩ := List.mem_map.mp (hp.mem_iff.mp hk)
    rfl
  refine ⟨ls.map unkey, e, ?_, by rw [← e]; exact hs⟩
  have := hp.map unkey
  rw [List.map_map, show unkey ∘ keyO = id from rfl, List.map_id] at this
  exact this
theorem Srt.one {rs : List Rl} {os os' : List Ov} (h : Srt rs os) (g : Srt rs os') : os = os' := by
  have hp : (os.map keyO).Perm (os'.map keyO) := (h.1.trans g.1.symm).map keyO
  have e := hp.eq_of_pairwise (le := BV.kle) (fun a b _ _ h1 h2 => (listOrd itemOrd).total _ _ h2 h1) h.2 g.2
  have := congrArg (List.map unkey) e
  rw [List.map_map, List.map_map, show unkey ∘ keyO = id from rfl, List.map_id, List.map_id] at this
  exact this
theorem Srt.mem {rs : List Rl} {os : List Ov} (h : Srt rs os) {o : Ov} (ho : o ∈ os) : o ∈ ovs rs := h.1.mem_iff.mp ho
end WM

end

section
/-! Papers that tell that overlaps meet, in plain Lean. -/
namespace WM
abbrev Pr := Option Run × Option Run
theorem side1_eq {rs : List Rl} {o : Ov} {l : Rl} (h : rs[o.i]? = some l) : side1 rs o = l.2 ++ o.t.drop l.1.length := by
  unfold side1; rw [h]
theorem side2_eq {rs : List Rl} {o : Ov} {r : Rl} (h : rs[o.j]? = some r) : side2 rs o = o.t.take o.p ++ r.2 ++ o.t.drop (o.p + r.1.length) := by
  unfold side2; rw [h]
theorem side_steps {rs : List Rl} {o : Ov} (h : o ∈ ovs rs) : stepAt rs o.t 0 o.i = some (side1 rs o) ∧ stepAt rs o.t o.p o.j = some (side2 rs o) := by
  obtain ⟨l, r, hl, hr, hp, ht, hm⟩ := ov_is h
  constructor
  · rw [stepAt_of hl (Nat.zero_le _) (by rw [List.drop_zero, ht, List.take_left]), side1_eq hl, List.take_zero, List.nil_append, Nat.zero_add]
  · have e1 : o.t.drop o.p = l.1.drop o.p ++ r.1.drop (min (l.1.length - o.p) r.1.length) := by rw [ht, List.drop_append_of_le_length (by omega)]
    have e2 : (o.t.drop o.p).take r.1.length = r.1 := by
      rw [e1]
      by_cases h : r.1.length ≤ l.1.length - o.p
      · rw [Nat.min_eq_right h, List.take_length] at hm
        rw [Nat.min_eq_right h, List.drop_length, List.append_nil]
        exact hm
      · rw [Nat.min_eq_left (by omega)] at hm ⊢
        rw [List.take_of_length_le (by rw [List.length_drop]; omega)] at hm
        rw [hm, List.take_append_drop, List.take_length]
    rw [stepAt_of hr (by rw [ht, List.length_append]; omega) e2, side2_eq hr]
theorem ov_len {rs : List Rl} (g : Good rs) {o : Ov} (h : o ∈ ovs rs) : o.t.length ≤ 8 := by
  obtain ⟨l, r, hl, hr, hp, ht, hm⟩ := ov_is h
  have gl := g l (List.mem_of_getElem? hl)
  have gr := g r (List.mem_of_getElem? hr)
  rw [ht, List.length_append, List.length_drop]
  omega
theorem side_len {rs : List Rl} (g : Good rs) {o : Ov} (h : o ∈ ovs rs) : (side1 rs o).length ≤ 8 ∧ (side2 rs o).length ≤ 8 := by
  have h1 := stepAt_len g (side_steps h).1
  have h2 := stepAt_len g (side_steps h).2
  have := ov_len g h
  omega
theorem Srt.len {rs : List Rl} {os : List Ov} (h : Srt rs os) (g : Good rs) (hn : rs.length ≤ 64) : os.length ≤ 16384 := by
  have h1 := ovI_len g hn rs.length
  have h2 := h.1.length_eq
  have h3 : (ovs rs).length = (ovI rs rs.length).length := rfl
  omega
/-- the first overlap whose runs do not meet -/
def firstBad (rs : List Rl) : List (Ov × Pr) → Nat → Int
  | [], _ => -1
  | (o, q) :: z, k => match leadO rs (side1 rs o) q.1 with
    | none => (k : Int) + 1
    | some e => if leadO rs (side2 rs o) q.2 = some e then firstBad rs z (k + 1) else (k : Int) + 1
theorem firstBad_good {rs : List Rl} {o : Ov} {q : Pr} {z : List (Ov × Pr)} {k : Nat} {e : W} (h1 : leadO rs (side1 rs o) q.1 = some e) (h2 : leadO rs (side2 rs o) q.2 = some e) : firstBad rs ((o, q) :: z) k = firstBad rs z (k + 1) := by
  conv => lhs; unfold firstBad
  rw [h1]
  dsimp only
  rw [if_pos h2]
theorem firstBad_none {rs : List Rl} {o : Ov} {q : Pr} {z : List (Ov × Pr)} {k : Nat} (h1 : leadO rs (side1 rs o) q.1 = none) : firstBad rs ((o, q) :: z) k = (k : Int) + 1 := by
  unfold firstBad
  rw [h1]
theorem firstBad_ne {rs : List Rl} {o : Ov} {q : Pr} {z : List (Ov × Pr)} {k : Nat} {e : W} (h1 : leadO rs (side1 rs o) q.1 = some e) (h2 : leadO rs (side2 rs o) q.2 ≠ some e) : firstBad rs ((o, q) :: z) k = (k : Int) + 1 := by
  unfold firstBad
  rw [h1]
  dsimp only
  rw [if_neg h2]
theorem firstBad_all {rs : List Rl} : ∀ {z : List (Ov × Pr)} {k : Nat}, (∀ x ∈ z, ∃ e, leadO rs (side1 rs x.1) x.2.1 = some e ∧ leadO rs (side2 rs x.1) x.2.2 = some e) → firstBad rs z k = -1
  | [], _, _ => rfl
  | (o, q) :: z, k, h => by
    obtain ⟨e, h1, h2⟩ := h (o, q) List.mem_cons_self
    rw [firstBad_good h1 h2]
    exact firstBad_all fun x hx => h x (List.mem_cons_of_mem _ hx)
def meetV (sw : W) (rs : List Rl) (os : List Ov) (a : W) : Option (List Pr) → Int
  | none => 0
  | some qs => if a = sw ∧ qs.length = os.length then firstBad rs (os.zip qs) 0 else 0
/-- the verdict over a paper of four things -/
def unsV (uw : W) (rs : List Rl) (a t : W) (q1 q2 : Option Run) : Int :=
  if a = uw then match endOf rs t q1 with
    | none => 1
    | some e1 => match endOf rs t q2 with
      | none => 2
      | some e2 => if e1 = e2 then 3 else -1
  else 0
end WM

end

section
/-! Fields and tuples of names within a comprehension: the surroundings are named. -/
namespace BV
open PySem L2
theorem pe_fldB {X : Cx} {e : Expr} {f : Str} {pos : Pos} {ta : TE} (K : PySem.W.Frag) (hk : X.K = K) (he : PE X e ta) (hb : attributeBase e f X.env (eval e X.env) = eval e X.env) : PE X (e.Attribute f pos) (tFld K ta f) := by
  subst hk
  exact pe_fld he hb
theorem pg_tupB {X : Cx} {pos : Pos} {es : List Expr} {k : Nat} {t : TGs} {n : Nat} (K : PySem.W.Frag) (hk : X.K = K) (hc : X.calm = true) (h : PGs X es t) (h1 : (assignEach es X.env).length = n := by rfl) (h2 : List.findIdx? (fun x => x.fst) (assignEach es X.env) = none := by rfl) : PG X (Expr.Tuple es k pos) (gTup K n t) := by
  subst hk
  exact pg_tup hc h h1 h2
end BV

end

section
/-! Reading behind a pile: what lies low enough does not matter. -/
namespace WM
def rdL (rs : List Rl) : Nat → W → Nat → W × Nat
  | 0, p, m => (p, m)
  | n + 1, p, m => match fit rs p with
    | none => (p, m)
    | some r => rdL rs n (p.take (p.length - r.1.length) ++ r.2) (min m (p.length - r.1.length))
def rd (rs : List Rl) (p : W) (m : Nat) : W × Nat := rdL rs p.length p m
def rdS (rs : List Rl) (s : W × Nat) (c : Nat) : W × Nat := rd rs (s.1 ++ [c]) s.2
def rdT (rs : List Rl) (s : W × Nat) (t : W) : W × Nat := t.foldl (rdS rs) s
theorem fit_cut {rs : List Rl} (g : Good rs) {p : W} {r : Rl} (h : fit rs p = some r) : (p.take (p.length - r.1.length) ++ r.2).length < p.length ∧ r.1.length ≤ p.length ∧ r ∈ rs := by
  obtain ⟨h1, h2⟩ := fit_some h
  have hl := ends_len h2
  have := (g r h1).1
  refine ⟨?_, hl, h1⟩
  rw [List.length_append, List.length_take]
  omega
theorem rdL_more {rs : List Rl} (g : Good rs) : ∀ (n k : Nat) (p : W) (m : Nat), p.length ≤ n → p.length ≤ k → rdL rs n p m = rdL rs k p m
  | 0, 0, p, m, _, _ => rfl
  | 0, k + 1, p, m, h, _ => by
    unfold rdL
    cases e : fit rs p with
    | none => rfl
    | some r => have := (fit_cut g e).1; omega
  | n + 1, 0, p, m, _, h => by
    unfold rdL
    cases e : fit rs p with
    | none => rfl
    | some r => have := (fit_cut g e).1; omega
  | n + 1, k + 1, p, m, h1, h2 => by
    unfold rdL
    cases e : fit rs p with
    | none => rfl
    | some r =>
      have := (fit_cut g e).1
      exact rdL_more g n k _ _ (by omega) (by omega)
theorem rd_none {rs : List Rl} {p : W} (h : fit rs p = none) (m : Nat) : rd rs p m = (p, m) := by
  unfold rd
  cases p.length with
  | zero => rfl
  | succ n => unfold rdL; rw [h]
theorem rd_some {rs : List Rl} (g : Good rs) {p : W} {r : Rl} (h : fit rs p = some r) (m : Nat) : rd rs p m = rd rs (p.take (p.length - r.1.length) ++ r.2) (min m (p.length - r.1.length)) := by
  obtain ⟨h1, _, _⟩ := fit_cut g h
  unfold rd
  obtain ⟨n, hn⟩ : ∃ n, p.length = n + 1 := ⟨p.length - 1, by omega⟩
  conv => lhs; rw [hn]; unfold rdL; rw [h]
  exact rdL_more g _ _ _ _ (by omega) (Nat.le_refl _)
theorem step1_fit {rs : List Rl} {p : W} : step1 rs p = (fit rs p).map fun r => p.take (p.length - r.1.length) ++ r.2 := rfl
theorem rd_fst {rs : List Rl} (g : Good rs) : ∀ (n : Nat) (p : W) (m : Nat), p.length ≤ n → (rd rs p m).1 = red rs p.length p
  | 0, p, m, h => by
    have : p = [] := List.eq_nil_of_length_eq_zero (by omega)
    subst this
    rfl
  | n + 1, p, m, h => by
    cases e : fit rs p with
    | none =>
      rw [rd_none e, red_none (by rw [step1_fit, e]; rfl)]
    | some r =>
      have h1 := (fit_cut g e).1
      rw [rd_some g e, red_some g (q' := p.take (p.length - r.1.length) ++ r.2) (by rw [step1_fit, e]; rfl)]
      exact rd_fst g n _ _ (by omega)
theorem rd_low {rs : List Rl} (g : Good rs) : ∀ (n : Nat) (p : W) (m : Nat), p.length ≤ n → (rd rs p m).2 ≤ m
  | 0, p, m, h => by
    have : p = [] := List.eq_nil_of_length_eq_zero (by omega)
    subst this
    exact Nat.le_refl _
  | n + 1, p, m, h => by
    cases e : fit rs p with
    | none => rw [rd_none e]; exact Nat.le_refl _
    | some r =>
      have h1 := (fit_cut g e).1
      rw [rd_some g e]
      have := rd_low g n (p.take (p.length - r.1.length) ++ r.2) (min m (p.length - r.1.length)) (by omega)
      omega
theorem rdT_fst {rs : List Rl} (g : Good rs) : ∀ (t p : W) (m : Nat), (rdT rs (p, m) t).1 = pileUp rs p t
  | [], p, m => rfl
  | c :: t, p, m => by
    show (rdT rs (rd rs (p ++ [c]) m) t).1 = pileUp rs (red rs (p.length + 1) (p ++ [c])) t
    have h := rd_fst g _ (p ++ [c]) m (Nat.le_refl _)
    rw [List.length_append, List.length_singleton] at h
    rw [← h]
    exact rdT_fst g t _ _
theorem rdT_low {rs : List Rl} (g : Good rs) : ∀ (t : W) (s : W × Nat), (rdT rs s t).2 ≤ s.2
  | [], s => Nat.le_refl _
  | c :: t, s => Nat.le_trans (rdT_low g t _) (rd_low g _ _ _ (Nat.le_refl _))
theorem pileUp_len {rs : List Rl} (g : Good rs) : ∀ (t p : W), (pileUp rs p t).length ≤ p.length + t.length
  | [], p => Nat.le_refl _
  | c :: t, p => by
    show (pileUp rs (red rs (p.length + 1) (p ++ [c])) t).length ≤ _
    have h1 := pileUp_len g t (red rs (p.length + 1) (p ++ [c]))
    have h2 := red_len g (p.length + 1) (p ++ [c])
    rw [List.length_append, List.length_singleton] at h2
    rw [List.length_cons]
    omega
/-- alike below -/
def Sim (rs : List Rl) (A B : W) : Prop := ∀ Z, ∀ r ∈ rs, endsB (A ++ Z) r.1 = endsB (B ++ Z) r.1
theorem Sim.trans {rs : List Rl} {A B C : W} (h : Sim rs A B) (k : Sim rs B C) : Sim rs A C := fun Z r hr => (h Z r hr).trans (k Z r hr)
theorem Sim.app {rs : List Rl} {A B : W} (h : Sim rs A B) (S : W) : Sim rs (A ++ S) (B ++ S) := fun Z r hr => by
  rw [List.append_assoc, List.append_assoc]
  exact h (S ++ Z) r hr
theorem Sim.refl (rs : List Rl) (A : W) : Sim rs A A := fun _ _ _ => rfl
theorem Sim.fit {rs : List Rl} {A B : W} (h : Sim rs A B) (Z : W) : fit rs (A ++ Z) = fit rs (B ++ Z) := by
  unfold WM.fit
  have key : ∀ l : List Rl, (∀ r ∈ l, r ∈ rs) → (l.find? fun r => endsB (A ++ Z) r.1) = l.find? fun r => endsB (B ++ Z) r.1 := by
    intro l
    induction l with
    | nil => intro _; rfl
    | cons r l ih =>
      intro hl
      rw [List.find?_cons, List.find?_cons, h Z r (hl r List.mem_cons_self), ih fun q hq => hl q (List.mem_cons_of_mem _ hq)]
  exact key rs fun _ h => h
theorem rd_sim {rs : List Rl} (g : Good rs) {A B : W} (hs : Sim rs A B) : ∀ (n : Nat) (X : W) (m m' : Nat), (A ++ X).length ≤ n → A.length ≤ (rd rs (A ++ X) m).2 → ∃ Y, (rd rs (A ++ X) m).1 = A ++ Y ∧ (rd rs (B ++ X) m').1 = B ++ Y
  | 0, X, m, m', h, hl => by
    rw [List.length_append] at h
    have h1 : A = [] := List.eq_nil_of_length_eq_zero (by omega)
    have h2 : X = [] := List.eq_nil_of_length_eq_zero (by omega)
    subst h1 h2
    have e0 : fit rs ([] ++ []) = none := by
      cases e : fit rs ([] ++ []) with
      | none => rfl
      | some r =>
        have := fit_cut g e
        simp at this
    have e1 := hs.fit []
    rw [e0] at e1
    exact ⟨[], by rw [rd_none e0], by rw [rd_none e1.symm]⟩
  | n + 1, X, m, m', h, hl => by
    have e1 := hs.fit X
    cases e : fit rs (A ++ X) with
    | none =>
      rw [e] at e1
      exact ⟨X, by rw [rd_none e], by rw [rd_none e1.symm]⟩
    | some r =>
      rw [e] at e1
      obtain ⟨h1, h2, h3⟩ := fit_cut g e
      rw [rd_some g e] at hl ⊢
      rw [rd_some g e1.symm]
      have lo := rd_low g _ ((A ++ X).take ((A ++ X).length - r.1.length) ++ r.2) (min m ((A ++ X).length - r.1.length)) (Nat.le_refl _)
      have hAX : (A ++ X).length = A.length + X.length := List.length_append
      have hx : r.1.length ≤ X.length := by omega
      have eA : (A ++ X).take ((A ++ X).length - r.1.length) ++ r.2 = A ++ (X.take (X.length - r.1.length) ++ r.2) := by
        rw [hAX, show A.length + X.length - r.1.length = A.length + (X.length - r.1.length) by omega, List.take_length_add_append, List.append_assoc]
      have eB : (B ++ X).take ((B ++ X).length - r.1.length) ++ r.2 = B ++ (X.take (X.length - r.1.length) ++ r.2) := by
        rw [List.length_append, show B.length + X.length - r.1.length = B.length + (X.length - r.1.length) by omega, List.take_length_add_append, List.append_assoc]
      rw [eA] at hl h1 ⊢
      rw [eB]
      exact rd_sim g hs n _ _ _ (by omega) hl
theorem rdT_sim {rs : List Rl} (g : Good rs) {A B : W} (hs : Sim rs A B) : ∀ (t X : W) (m m' : Nat), A.length ≤ (rdT rs (A ++ X, m) t).2 → ∃ Y, (rdT rs (A ++ X, m) t).1 = A ++ Y ∧ (rdT rs (B ++ X, m') t).1 = B ++ Y
  | [], X, m, m', _ => ⟨X, rfl, rfl⟩
  | c :: t, X, m, m', hl => by
    have hl' : A.length ≤ (rdT rs (rd rs (A ++ X ++ [c]) m) t).2 := hl
    have h1 := Nat.le_trans hl' (rdT_low g t _)
    rw [List.append_assoc] at h1 hl'
    obtain ⟨Y, y1, y2⟩ := rd_sim g hs _ (X ++ [c]) m m' (Nat.le_refl _) h1
    have q1 : rd rs (A ++ (X ++ [c])) m = (A ++ Y, (rd rs (A ++ (X ++ [c])) m).2) := by rw [← y1]
    have q2 : rd rs (B ++ (X ++ [c])) m' = (B ++ Y, (rd rs (B ++ (X ++ [c])) m').2) := by rw [← y2]
    rw [q1] at hl'
    obtain ⟨Z, z1, z2⟩ := rdT_sim g hs t Y _ (rd rs (B ++ (X ++ [c])) m').2 hl'
    refine ⟨Z, ?_, ?_⟩
    · show (rdT rs (rd rs (A ++ X ++ [c]) m) t).1 = _
      rw [List.append_assoc, q1]
      exact z1
    · show (rdT rs (rd rs (B ++ X ++ [c]) m') t).1 = _
      rw [List.append_assoc, q2]
      exact z2
end WM

end

section
/-! The piles of a text read again and again come round. -/
namespace WM
def rep (n : Nat) (t : W) : W := (List.replicate n t).flatten
theorem rep_zero (t : W) : rep 0 t = [] := rfl
theorem rep_succ (n : Nat) (t : W) : rep (n + 1) t = rep n t ++ t := by
  unfold rep
  rw [List.replicate_succ', List.flatten_append]
  simp
def pil (rs : List Rl) (a t : W) (n : Nat) : W := left rs (a ++ rep n t)
theorem pil_zero (rs : List Rl) (a t : W) : pil rs a t 0 = left rs a := by unfold pil; rw [rep_zero, List.append_nil]
theorem pil_succ (rs : List Rl) (a t : W) (n : Nat) : pil rs a t (n + 1) = pileUp rs (pil rs a t n) t := by
  unfold pil left
  rw [rep_succ, ← List.append_assoc, pileUp_append]
theorem pil_len {rs : List Rl} (g : Good rs) (a t : W) (n : Nat) : (pil rs a t n).length ≤ a.length + n * t.length := by
  have h := left_len g (a ++ rep n t)
  have e : (rep n t).length = n * t.length := by
    induction n with
    | zero => rw [rep_zero, Nat.zero_mul]; rfl
    | succ n ih => rw [rep_succ, List.length_append, ih (left_len g _), Nat.succ_mul]
  rw [List.length_append, e] at h
  exact h
def low (rs : List Rl) (a t : W) : Nat → Nat
  | 0 => 0
  | n + 1 => (rdT rs (pil rs a t n, (pil rs a t n).length) t).2
theorem low_le {rs : List Rl} (g : Good rs) (a t : W) (n : Nat) : low rs a t (n + 1) ≤ (pil rs a t n).length := rdT_low g t _
def lev (rs : List Rl) (a t : W) (N : Nat) : Nat → Nat
  | 0 => (pil rs a t N).length
  | k + 1 => min (min (lev rs a t N k) (low rs a t (N - k))) (pil rs a t (N - 1 - k)).length
theorem lev_le {rs : List Rl} {a t : W} {N : Nat} : ∀ {k : Nat}, k ≤ N → lev rs a t N k ≤ (pil rs a t N).length ∧ ∀ i, N - k ≤ i → i < N → lev rs a t N k ≤ low rs a t (i + 1) ∧ lev rs a t N k ≤ (pil rs a t i).length
  | 0, _ => ⟨Nat.le_refl _, fun i h1 h2 => by omega⟩
  | k + 1, h => by
    obtain ⟨h1, h2⟩ := lev_le (rs := rs) (a := a) (t := t) (N := N) (k := k) (Nat.le_of_succ_le h)
    have e : lev rs a t N (k + 1) = min (min (lev rs a t N k) (low rs a t (N - k))) (pil rs a t (N - 1 - k)).length := rfl
    refine ⟨by omega, fun i g1 g2 => ?_⟩
    by_cases hi : i = N - 1 - k
    · subst hi
      rw [show N - 1 - k + 1 = N - k by omega]
      omega
    · have := h2 i (by omega) g2
      omega
def win (n : Nat) (t : W) : W := t.drop (t.length + 1 - n)
theorem win_near (n : Nat) (t : W) : win n t = t.drop (t.length - (n - 1)) := by
  unfold win
  cases n with
  | zero => rw [List.drop_eq_nil_of_le (by omega), List.drop_eq_nil_of_le (by omega)]
  | succ n => congr 1; omega
def hit (rs : List Rl) (a t : W) (N k : Nat) : Prop :=
  endsB (pil rs a t N) ((pil rs a t (N - 1 - k)).drop (lev rs a t N (k + 1))) = true ∧
  lev rs a t N (k + 1) ≤ (pil rs a t N).length - ((pil rs a t (N - 1 - k)).drop (lev rs a t N (k + 1))).length ∧
  win (longest rs) ((pil rs a t N).take ((pil rs a t N).length - ((pil rs a t (N - 1 - k)).drop (lev rs a t N (k + 1))).length)) = win (longest rs) ((pil rs a t (N - 1 - k)).take (lev rs a t N (k + 1)))
instance (rs : List Rl) (a t : W) (N k : Nat) : Decidable (hit rs a t N k) := by unfold hit; infer_instance
theorem win_ends {L : Nat} {A B Z l : W} (hw : win L A = win L B) (hl : l.length ≤ L) (hz : Z ≠ []) (h : endsB (A ++ Z) l = true) : endsB (B ++ Z) l = true := by
  have hz0 : 0 < Z.length := List.length_pos_iff.mpr hz
  obtain ⟨p, hp⟩ := endsB_iff.mp h
  rw [endsB_iff]
  rcases List.append_eq_append_iff.mp hp with ⟨x, e1, e2⟩ | ⟨x, e1, e2⟩
  · -- p = A ++ x, Z = x ++ l
    exact ⟨B ++ x, by rw [e2, List.append_assoc]⟩
  · -- A = p ++ x, l = x ++ Z
    subst e1 e2
    rw [List.length_append] at hl
    have w1 : win L (p ++ x) = p.drop ((p ++ x).length + 1 - L) ++ x := by
      unfold win
      rw [List.drop_append_of_le_length]
      rw [List.length_append]
      omega
    have w2 : B = B.take (B.length + 1 - L) ++ win L B := by unfold win; rw [List.take_append_drop]
    refine ⟨B.take (B.length + 1 - L) ++ p.drop ((p ++ x).length + 1 - L), ?_⟩
    conv => lhs; rw [w2, ← hw, w1]
    simp only [List.append_assoc]
theorem irr_end0 {rs : List Rl} {A u : W} (h : Irr rs (A ++ u)) {r : Rl} (hr : r ∈ rs) : endsB (A ++ []) r.1 = false := by
  cases e : endsB (A ++ []) r.1 with
  | false => rfl
  | true =>
    obtain ⟨p, hp⟩ := endsB_iff.mp e
    rw [List.append_nil] at hp
    exact absurd (by rw [hp]) (h p u r hr)
theorem sim_win {rs : List Rl} {A B u v : W} (h1 : Irr rs (A ++ u)) (h2 : Irr rs (B ++ v)) (hw : win (longest rs) A = win (longest rs) B) : Sim rs A B := fun Z r hr => by
  by_cases hz : Z = []
  · subst hz
    rw [irr_end0 h1 hr, irr_end0 h2 hr]
  · have hl := le_longest hr
    cases e : endsB (A ++ Z) r.1 with
    | true => exact (win_ends hw hl hz e).symm
    | false =>
      cases e2 : endsB (B ++ Z) r.1 with
      | false => rfl
      | true => rw [win_ends hw.symm hl hz e2] at e; cases e
/-- what is told of a hit -/
structure Rnd (rs : List Rl) (a t : W) (j n : Nat) (head step : W) : Prop where
  pos : 0 < n
  pre : ∀ i, j ≤ i → i ≤ j + n → head.length ≤ (pil rs a t i).length
  all : ∀ q r, r < n → pil rs a t (j + q * n + r) = head ++ rep q step ++ (pil rs a t (j + r)).drop head.length
theorem run_on {rs : List Rl} (g : Good rs) {a t : W} {A B : W} (hs : Sim rs A B) {j n m : Nat} (hl : ∀ i, j ≤ i → i < j + n → A.length ≤ low rs a t (i + 1)) {X : W} (h1 : pil rs a t j = A ++ X) (h2 : pil rs a t m = B ++ X) : ∀ r, r ≤ n → ∃ Y, pil rs a t (j + r) = A ++ Y ∧ pil rs a t (m + r) = B ++ Y
  | 0, _ => ⟨X, h1, h2⟩
  | r + 1, hr => by
    obtain ⟨Y, y1, y2⟩ := run_on g hs hl h1 h2 r (Nat.le_of_succ_le hr)
    have lo := hl (j + r) (by omega) (by omega)
    have e : low rs a t (j + r + 1) = (rdT rs (pil rs a t (j + r), (pil rs a t (j + r)).length) t).2 := rfl
    rw [e, y1] at lo
    obtain ⟨Z, z1, z2⟩ := rdT_sim g hs t Y _ 0 lo
    refine ⟨Z, ?_, ?_⟩
    · rw [show j + (r + 1) = (j + r) + 1 from rfl, pil_succ, y1, ← rdT_fst g, z1]
    · rw [show m + (r + 1) = (m + r) + 1 from rfl, pil_succ, y2, ← rdT_fst g, z2]
theorem hit_rnd {rs : List Rl} (g : Good rs) {a t : W} {N k : Nat} (hk : k < N) (h : hit rs a t N k) : Rnd rs a t (N - 1 - k) (k + 1) ((pil rs a t (N - 1 - k)).take (lev rs a t N (k + 1))) (((pil rs a t N).take ((pil rs a t N).length - ((pil rs a t (N - 1 - k)).drop (lev rs a t N (k + 1))).length)).drop (lev rs a t N (k + 1))) := by
  obtain ⟨h1, h2, h3⟩ := h
  obtain ⟨l1, l2⟩ := lev_le (rs := rs) (a := a) (t := t) (N := N) (k := k + 1) (by omega)
  generalize hj : N - 1 - k = j at *
  generalize hlv : lev rs a t N (k + 1) = lv at *
  have hN : N = j + (k + 1) := by omega
  have hjl : lv ≤ (pil rs a t j).length := (l2 j (by omega) (by omega)).2
  have hhl : ((pil rs a t j).take lv).length = lv := by rw [List.length_take]; omega
  have e0 : pil rs a t j = (pil rs a t j).take lv ++ (pil rs a t j).drop lv := (List.take_append_drop _ _).symm
  have hlow : ∀ i, j ≤ i → i < j + (k + 1) → ((pil rs a t j).take lv).length ≤ low rs a t (i + 1) := fun i g1 g2 => by
    rw [hhl]; exact (l2 i (by omega) (by omega)).1
  generalize hhead : (pil rs a t j).take lv = head at *
  generalize hrest : (pil rs a t j).drop lv = rest at *
  obtain ⟨lg, hlast⟩ := endsB_iff.mp h1
  have hlg : (pil rs a t N).take ((pil rs a t N).length - rest.length) = lg := by
    rw [hlast, List.length_append, Nat.add_sub_cancel, List.take_left]
  rw [hlg] at h3 ⊢
  have hlgl : lv ≤ lg.length := by rw [hlast, List.length_append, Nat.add_sub_cancel] at h2; exact h2
  -- the first round
  obtain ⟨Y, y1, _⟩ := run_on g (Sim.refl rs head) hlow e0 e0 (k + 1) (Nat.le_refl _)
  rw [← hN] at y1
  have hpre : lg = head ++ lg.drop lv := by
    have e1 : lg.take lv = head := by
      have e2 : (pil rs a t N).take lv = head := by rw [y1, ← hhl, List.take_left]
      rw [hlast, List.take_append_of_le_length hlgl] at e2
      exact e2
    conv => lhs; rw [← List.take_append_drop lv lg, e1]
  generalize lg.drop lv = step at hpre ⊢
  have hY : Y = step ++ rest := by
    rw [hlast, hpre, List.append_assoc] at y1
    exact (List.append_cancel_left y1).symm
  have hsim : Sim rs head (head ++ step) := by
    refine sim_win (u := rest) (v := rest) ?_ ?_ ?_
    · rw [← e0]; exact left_irr g _
    · rw [← hpre, ← hlast]; exact left_irr g _
    · rw [← hpre]; exact h3.symm
  have hround : ∀ q, Sim rs head (head ++ rep q step) ∧ pil rs a t (j + q * (k + 1)) = head ++ rep q step ++ rest := by
    intro q
    induction q with
    | zero => exact ⟨by rw [rep_zero, List.append_nil]; exact Sim.refl rs head, by rw [Nat.zero_mul, rep_zero, List.append_nil]; exact e0⟩
    | succ q ih =>
      obtain ⟨s1, s2⟩ := ih
      have e3 : head ++ rep (q + 1) step = head ++ rep q step ++ step := by rw [rep_succ, List.append_assoc]
      refine ⟨?_, ?_⟩
      · rw [e3]
        exact hsim.trans (s1.app step)
      · obtain ⟨Z, z1, z2⟩ := run_on g s1 hlow e0 s2 (k + 1) (Nat.le_refl _)
        rw [← hN, y1] at z1
        have : Z = Y := (List.append_cancel_left z1).symm
        rw [show j + (q + 1) * (k + 1) = j + q * (k + 1) + (k + 1) by rw [Nat.succ_mul]; omega, z2, this, hY, e3, List.append_assoc (head ++ rep q step) step rest]
  refine ⟨Nat.succ_pos _, fun i g1 g2 => ?_, fun q r hr => ?_⟩
  · rw [hhl]
    by_cases hi : i = N
    · rw [hi]; exact l1
    · exact (l2 i (by omega) (by omega)).2
  · obtain ⟨s1, s2⟩ := hround q
    obtain ⟨Z, z1, z2⟩ := run_on g s1 hlow e0 s2 r (by omega)
    rw [z2, z1, List.drop_left]
/-- (number, size, right) of the rule that fits -/
def fitR (rs : List Rl) (p : W) : Option (Nat × Nat × W) → Prop
  | none => fit rs p = none
  | some (_, z, t) => ∃ r, fit rs p = some r ∧ r.1.length = z ∧ r.2 = t
theorem best_fitR {rs : List Rl} {p : W} {n : Nat} {o : Option (Nat × Nat × W)} (hn : ∀ r ∈ rs, endsB p r.1 = true → r.1.length ≤ n) (b : Best rs p n o) : fitR rs p o := by
  cases o with
  | none =>
    show fit rs p = none
    exact List.find?_eq_none.mpr fun r hr h => by
      have h : endsB p r.1 = true := h
      rw [b r hr (hn r hr h)] at h
      cases h
  | some x =>
    obtain ⟨k, z, t⟩ := x
    obtain ⟨r, h1, h2, h3, h4, h5, h6⟩ := b
    refine ⟨r, ?_, h2, h3⟩
    unfold fit
    rw [List.find?_eq_some_iff_getElem]
    have hk := BV.get_lt h1
    refine ⟨h5, k, hk, ?_, fun j hj => ?_⟩
    · rw [List.getElem?_eq_getElem hk] at h1
      exact Option.some.inj h1
    · cases e : endsB p rs[j].1 with
      | false => rfl
      | true =>
        have hj2 : rs[j]? = some rs[j] := List.getElem?_eq_getElem (by omega)
        rw [h6 j _ hj hj2 (hn _ (List.mem_of_getElem? hj2) e)] at e
        cases e
theorem rdT_snoc (rs : List Rl) (s : W × Nat) (t : W) (c : Nat) : rdT rs s (t ++ [c]) = rd rs ((rdT rs s t).1 ++ [c]) (rdT rs s t).2 := by
  unfold rdT
  rw [List.foldl_append]
  rfl
/-- the first round that is found -/
def Fnd (rs : List Rl) (a t : W) (N k : Nat) : Prop := k < N ∧ hit rs a t N k ∧ (∀ k', k' < k → ¬ hit rs a t N k') ∧ ∀ N', N' < N → ∀ k', k' < N' → ¬ hit rs a t N' k'
theorem Fnd.one {rs : List Rl} {a t : W} {N k N' k' : Nat} (h : Fnd rs a t N k) (g : Fnd rs a t N' k') : N = N' ∧ k = k' := by
  obtain ⟨h1, h2, h3, h4⟩ := h
  obtain ⟨g1, g2, g3, g4⟩ := g
  have hN : N = N' := by
    rcases Nat.lt_trichotomy N N' with z | z | z
    · exact absurd h2 (g4 N z k h1)
    · exact z
    · exact absurd g2 (h4 N' z k' g1)
  subst hN
  refine ⟨rfl, ?_⟩
  rcases Nat.lt_trichotomy k k' with z | z | z
  · exact absurd h2 (g3 k z)
  · exact z
  · exact absurd g2 (h3 k' z)
/-- the parts of what is found -/
def hdO (rs : List Rl) (a t : W) (N k : Nat) : W := (pil rs a t (N - 1 - k)).take (lev rs a t N (k + 1))
def stO (rs : List Rl) (a t : W) (N k : Nat) : W := ((pil rs a t N).take ((pil rs a t N).length - ((pil rs a t (N - 1 - k)).drop (lev rs a t N (k + 1))).length)).drop (lev rs a t N (k + 1))
def fsO (rs : List Rl) (a t : W) (N k : Nat) : List W := (List.range (N - 1 - k)).map (pil rs a t)
def tlO (rs : List Rl) (a t : W) (N k : Nat) : List W := (List.range (k + 1)).map fun r => (pil rs a t (N - 1 - k + r)).drop (lev rs a t N (k + 1))
end WM

end

section
set_option maxHeartbeats 4000000
/-! A slice of an own list. -/
namespace BV
open PySem PySem.Spec L2
section
variable {K : KB} {w w1 : Bool} {ρ : LS} {R : Dat → Prop}
theorem g_slO {i : Nat} {ds : List Dat} {tl th : TO} (he : ρ[i]? = some (.own ds)) (h : GO K ρ tl fun lo => GO K ρ th fun hi => R (.lst (cut ds lo hi))) : G K w ρ (tSl (rSlL K.F) (tVar i) tl th) R := fun c σ H o Q q => by
  obtain ⟨v, e, a, xs, rfl, ha, rl⟩ := o.get he
  refine ⟨_, e, h c σ H o _ fun lo H3 o3 l3 k3 => k3 c σ H3 o3 _ fun hi H4 o4 l4 k4 => ?_⟩
  obtain ⟨v', e', a', xs', q1, ha', rl'⟩ := o4.get he
  rw [e] at e'
  cases e'
  cases q1
  have rl2 : RepL K.F (vw c w ρ σ H4) xs' ds := by
    cases w with
    | false => exact rl'
    | true => exact rl'.mono vw_up
  refine ⟨_, xs', rfl, .inl (.inl ha'), fun p hp => q _ _ _ (o4.ex (Ex.new hp)) ((l3.trans l4).trans (Ex.new hp).le) (.lst (o4.vw_new hp) ?_) k4⟩
  exact (cutV_rep rl2 lo hi).mono (Le.vw (Ex.new hp).le)
end
end BV

end

section
/-! Two settled books: the same ends, least texts that part them, least books. -/
namespace WM
theorem left_ctx {rs : List Rl} (c : Conf rs) {u v : W} (h : Rch rs u v) (a b : W) : left rs (a ++ u ++ b) = left rs (a ++ v ++ b) := c.rch (h.ctx a b)
theorem irr_left {rs : List Rl} (g : Good rs) {t : W} : Irr rs t ↔ left rs t = t := ⟨left_id, fun h => by rw [← h]; exact left_irr g t⟩
theorem not_irr {rs : List Rl} {t : W} (h : ¬ Irr rs t) : ∃ a b r, r ∈ rs ∧ t = a ++ r.1 ++ b := by
  refine Classical.byContradiction fun k => h fun a b r hr e => k ⟨a, b, r, hr, e⟩
theorem irr_fac {rs : List Rl} {a f b : W} (h : Irr rs (a ++ f ++ b)) : Irr rs f := fun x y r hr e => h (a ++ x) (y ++ b) r hr (by rw [e]; simp only [List.append_assoc])
/-- a rule of the one is kept by the other -/
theorem rule_kept {rs ns : List Rl} (g1 : Good rs) (g2 : Good ns) (c1 : Conf rs) (h1 : ∀ l ∈ rs, left rs l.1 = left ns l.1) {l : Rl} (hl : l ∈ rs) : left ns l.1 = left ns l.2 := by
  have e1 : left rs l.1 = left rs l.2 := c1 _ _ ⟨[], [], l, hl, by simp, by simp⟩
  have e2 := h1 l hl
  by_cases hi : Irr rs l.2
  · rw [← e2, e1, left_id hi, left_id]
    have : left ns l.1 = l.2 := by rw [← e2, e1, left_id hi]
    rw [← this]
    exact left_irr g2 _
  · obtain ⟨a, b, r, hr, e⟩ := not_irr hi
    have gr := g1 r hr
    have gl := g1 l hl
    have hlen := congrArg List.length e
    simp only [List.length_append] at hlen
    have ha : a = [] := List.eq_nil_of_length_eq_zero (by omega)
    have hb : b = [] := List.eq_nil_of_length_eq_zero (by omega)
    subst ha hb
    rw [List.nil_append, List.append_nil] at e
    rw [← e2, e1, e]
    exact h1 r hr
theorem stp_kept {rs ns : List Rl} (g1 : Good rs) (g2 : Good ns) (c1 : Conf rs) (c2 : Conf ns) (h1 : ∀ l ∈ rs, left rs l.1 = left ns l.1) {u v : W} (h : Rch rs u v) : left ns u = left ns v := by
  induction h with
  | refl _ => rfl
  | step s _ ih =>
    rw [← ih]
    obtain ⟨a, b, r, hr, rfl, rfl⟩ := s
    have e := rule_kept g1 g2 c1 h1 hr
    rw [left_ctx c2 (left_rch ns r.1), e, ← left_ctx c2 (left_rch ns r.2)]
theorem left_short {rs : List Rl} (g : Good rs) {t : W} (h : ¬ Irr rs t) : (left rs t).length < t.length := by
  have h1 := left_len g t
  have h2 : left rs t ≠ t := fun e => h ((irr_left g).mpr e)
  rcases Nat.lt_or_ge (left rs t).length t.length with z | z
  · exact z
  · have hr := left_rch rs t
    generalize left rs t = v at hr h2 ⊢
    cases hr with
    | refl _ => exact absurd rfl h2
    | step s k =>
      have := s.len g
      have := k.len g
      omega
/-- both have the same ends if they have for every left side of both -/
theorem same_all {rs ns : List Rl} (g1 : Good rs) (g2 : Good ns) (c1 : Conf rs) (c2 : Conf ns) (h1 : ∀ l ∈ rs, left rs l.1 = left ns l.1) (h2 : ∀ l ∈ ns, left rs l.1 = left ns l.1) (t : W) : left rs t = left ns t := by
  rw [stp_kept g1 g2 c1 c2 h1 (left_rch rs t)]
  have hi : Irr ns (left rs t) := fun a b r hr e => by
    have i1 := left_irr g1 t
    rw [e] at i1
    have i2 := irr_fac i1
    have e3 := h2 r hr
    rw [left_id i2] at e3
    have gr := g2 r hr
    have ni : ¬ Irr ns r.1 := fun z => z [] [] r hr (by simp)
    have := left_short g2 ni
    rw [← e3] at this
    omega
  rw [left_id hi]
/-- a shortest text with unlike ends is a left side -/
theorem part_left {rs ns : List Rl} (g1 : Good rs) (g2 : Good ns) (c1 : Conf rs) (c2 : Conf ns) {t : W} (hne : left rs t ≠ left ns t) (hs : ∀ u : W, u.length < t.length → left rs u = left ns u) : ∃ l, (l ∈ rs ∨ l ∈ ns) ∧ l.1 = t := by
  have key : ∀ {ps qs : List Rl}, Good ps → Good qs → Conf ps → Conf qs → left ps t ≠ left qs t → (∀ u : W, u.length < t.length → left ps u = left qs u) → ¬ Irr ps t → ∃ l ∈ ps, l.1 = t := fun {ps qs} g1 g2 c1 c2 hne hs hi => by
    obtain ⟨a, b, r, hr, e⟩ := not_irr hi
    by_cases hab : a = [] ∧ b = []
    · obtain ⟨rfl, rfl⟩ := hab
      exact ⟨r, hr, by rw [e]; simp⟩
    · exfalso
      have hl := congrArg List.length e
      simp only [List.length_append] at hl
      have hr1 : r.1.length < t.length := by
        rcases Nat.lt_or_ge r.1.length t.length with z | z
        · exact z
        · exact absurd ⟨List.eq_nil_of_length_eq_zero (by omega), List.eq_nil_of_length_eq_zero (by omega)⟩ hab
      have e1 := hs r.1 hr1
      have ni : ¬ Irr ps r.1 := fun z => z [] [] r hr (by simp)
      have hsh := left_short g1 ni
      have e2 := hs (a ++ left ps r.1 ++ b) (by simp only [List.length_append]; omega)
      refine hne ?_
      rw [e, left_ctx c1 (left_rch ps r.1), left_ctx c2 (left_rch qs r.1), ← e1]
      exact e2
  by_cases hi : Irr rs t
  · by_cases hj : Irr ns t
    · exact absurd (by rw [left_id hi, left_id hj]) hne
    · obtain ⟨l, hl, e⟩ := key g2 g1 c2 c1 (Ne.symm hne) (fun u hu => (hs u hu).symm) hj
      exact ⟨l, .inr hl, e⟩
  · obtain ⟨l, hl, e⟩ := key g1 g2 c1 c2 hne hs hi
    exact ⟨l, .inl hl, e⟩
/-! ### least books -/
/-- a left side without a proper piece that is one -/
def MinL (rs : List Rl) (l : W) : Prop := (∃ r ∈ rs, r.1 = l) ∧ ∀ r ∈ rs, ∀ a b, l = a ++ r.1 ++ b → a = [] ∧ b = []
theorem minL_iff {rs : List Rl} {l : W} : MinL rs l ↔ ¬ Irr rs l ∧ ∀ a f b, l = a ++ f ++ b → f.length < l.length → Irr rs f := by
  constructor
  · rintro ⟨⟨r, hr, rfl⟩, h⟩
    refine ⟨fun z => z [] [] r hr (by simp), fun a f b e hf x y q hq e2 => ?_⟩
    subst e2
    obtain ⟨h1, h2⟩ := h q hq (a ++ x) (y ++ b) (by rw [e]; simp only [List.append_assoc])
    obtain ⟨rfl, rfl⟩ := List.append_eq_nil_iff.mp h1
    obtain ⟨rfl, rfl⟩ := List.append_eq_nil_iff.mp h2
    rw [e] at hf
    simp at hf
  · rintro ⟨h1, h2⟩
    obtain ⟨a, b, r, hr, e⟩ := not_irr h1
    have full : ∀ q ∈ rs, ∀ a b, l = a ++ q.1 ++ b → a = [] ∧ b = [] := fun q hq a b e => by
      have hl := congrArg List.length e
      simp only [List.length_append] at hl
      rcases Nat.lt_or_ge q.1.length l.length with z | z
      · exact absurd (h2 a q.1 b e z) fun i => i [] [] q hq (by simp)
      · exact ⟨List.eq_nil_of_length_eq_zero (by omega), List.eq_nil_of_length_eq_zero (by omega)⟩
    obtain ⟨rfl, rfl⟩ := full r hr a b e
    exact ⟨⟨r, hr, by rw [e]; simp⟩, full⟩
/-- what is no end has a piece that is least -/
theorem has_min {rs : List Rl} : ∀ (n : Nat) (t : W), t.length ≤ n → ¬ Irr rs t → ∃ a l b, t = a ++ l ++ b ∧ MinL rs l
  | 0, t, h, hi => by
    refine ⟨[], t, [], by simp, minL_iff.mpr ⟨hi, fun a f b e hf => by omega⟩⟩
  | n + 1, t, h, hi => by
    by_cases hm : ∀ a f b, t = a ++ f ++ b → f.length < t.length → Irr rs f
    · exact ⟨[], t, [], by simp, minL_iff.mpr ⟨hi, hm⟩⟩
    · simp only [Classical.not_forall] at hm
      obtain ⟨a, f, b, e, hf, hni⟩ := hm
      obtain ⟨x, l, y, e2, hl⟩ := has_min n f (by omega) hni
      exact ⟨a ++ x, l, y ++ b, by rw [e, e2]; simp only [List.append_assoc], hl⟩
theorem minL_same {rs ns : List Rl} (g1 : Good rs) (g2 : Good ns) (h : ∀ t, left rs t = left ns t) (l : W) : MinL rs l ↔ MinL ns l := by
  have e : ∀ t, Irr rs t ↔ Irr ns t := fun t => by rw [irr_left g1, irr_left g2, h]
  rw [minL_iff, minL_iff, e l]
  constructor
  · rintro ⟨h1, h2⟩; exact ⟨h1, fun a f b x y => (e f).mp (h2 a f b x y)⟩
  · rintro ⟨h1, h2⟩; exact ⟨h1, fun a f b x y => (e f).mpr (h2 a f b x y)⟩
/-- equal least books: the same ends -/
theorem same_of_min {rs ns : List Rl} (g1 : Good rs) (g2 : Good ns) (c1 : Conf rs) (c2 : Conf ns) (h : ∀ l, MinL rs l ↔ MinL ns l) (k : ∀ l, MinL rs l → left rs l = left ns l) : ∀ (n : Nat) (t : W), t.length ≤ n → left rs t = left ns t
  | n, t, hn => by
    by_cases hi : Irr rs t
    · by_cases hj : Irr ns t
      · rw [left_id hi, left_id hj]
      · obtain ⟨a, l, b, e, hl⟩ := has_min _ t (Nat.le_refl _) hj
        have := (minL_iff.mp ((h l).mpr hl)).1
        exact absurd (irr_fac (e ▸ hi)) this
    · obtain ⟨a, l, b, e, hl⟩ := has_min _ t (Nat.le_refl _) hi
      have hsh := left_short g1 (minL_iff.mp hl).1
      have el := k l hl
      rw [e] at hn ⊢
      simp only [List.length_append] at hn
      match n with
      | 0 => omega
      | n + 1 =>
        rw [left_ctx c1 (left_rch rs l), left_ctx c2 (left_rch ns l), ← el]
        exact same_of_min g1 g2 c1 c2 h k n _ (by simp only [List.length_append]; omega)
/-- the end of a least left side has at most one sign -/
theorem end_one {rs : List Rl} (g : Good rs) (c : Conf rs) {r : Rl} (hr : r ∈ rs) : (left rs r.1).length ≤ 1 := by
  have e : left rs r.1 = left rs r.2 := c _ _ ⟨[], [], r, hr, by simp, by simp⟩
  rw [e]
  have := left_len g r.2
  have := (g r hr).2.2
  omega
end WM

end

section
/-! Least books by lists: distinct left sides, those that are least, in order; least texts. -/
namespace WM
open PySem L2 BV PyProof.Rows
def LeastOf (ws : List W) (w : W) : Prop := w ∈ ws ∧ ∀ v ∈ ws, kLt v w = false
theorem LeastOf.one {ws vs : List W} {w v : W} (h : LeastOf ws w) (k : LeastOf vs v) (e : ∀ x, x ∈ ws ↔ x ∈ vs) : w = v := kLt_total (k.2 w ((e w).mp h.1)) (h.2 v ((e v).mpr k.1))
/-! a proper piece of the text is a left side -/
def Inside (rs : List Rl) (l : W) : Prop := ∃ r ∈ rs, ∃ a b, l = a ++ r.1 ++ b ∧ r.1.length < l.length
def KeysOf (rs : List Rl) (kvs : List (DKey × Dat)) : Prop := ∀ w : W, (valD kvs (.s w)).isSome = true ↔ ∃ r ∈ rs, r.1 = w
def NoAt (rs : List Rl) (l : W) (st sp : Nat) : Prop := sp - st < l.length → ∀ r ∈ rs, r.1 ≠ (l.drop st).take (sp - st)
theorem inside_at {rs : List Rl} {l : W} {st sp : Nat} (h1 : st < sp) (h2 : sp ≤ l.length) (h3 : sp - st < l.length) {r : Rl} (hr : r ∈ rs) (e : r.1 = (l.drop st).take (sp - st)) : Inside rs l := by
  refine ⟨r, hr, l.take st, l.drop sp, ?_, ?_⟩
  · rw [e]
    have e2 : l.drop sp = (l.drop st).drop (sp - st) := by rw [List.drop_drop]; congr 1; omega
    rw [e2, List.append_assoc, List.take_append_drop, List.take_append_drop]
  · rw [e, List.length_take, List.length_drop]
    omega
theorem not_inside {rs : List Rl} (g : Good rs) {l : W} (h : ∀ st sp, st < sp → sp ≤ l.length → NoAt rs l st sp) : ¬ Inside rs l := by
  rintro ⟨r, hr, a, b, e, hl⟩
  have gr := g r hr
  have hlen := congrArg List.length e
  simp only [List.length_append] at hlen
  refine h a.length (a.length + r.1.length) (by omega) (by omega) (by omega) r hr ?_
  rw [e, List.append_assoc, List.drop_left, Nat.add_sub_cancel_left, List.take_left]
theorem minL_inside {rs : List Rl} {l : W} : MinL rs l ↔ (∃ r ∈ rs, r.1 = l) ∧ ¬ Inside rs l := by
  constructor
  · rintro ⟨h1, h2⟩
    refine ⟨h1, ?_⟩
    rintro ⟨r, hr, a, b, e, hl⟩
    obtain ⟨rfl, rfl⟩ := h2 r hr a b e
    rw [e] at hl
    simp at hl
  · rintro ⟨h1, h2⟩
    refine ⟨h1, fun r hr a b e => ?_⟩
    have hlen := congrArg List.length e
    simp only [List.length_append] at hlen
    rcases Nat.lt_or_ge r.1.length l.length with z | z
    · exact absurd ⟨r, hr, a, b, e, z⟩ h2
    · exact ⟨List.eq_nil_of_length_eq_zero (by omega), List.eq_nil_of_length_eq_zero (by omega)⟩
/-! distinct left sides -/
def lset (rs : List Rl) : List W := rs.foldl (fun acc r => if r.1 ∈ acc then acc else acc ++ [r.1]) []
theorem lset_snoc (rs : List Rl) (r : Rl) : lset (rs ++ [r]) = if r.1 ∈ lset rs then lset rs else lset rs ++ [r.1] := by
  unfold lset
  rw [List.foldl_append]
  rfl
theorem rev_ind {α : Type} {P : List α → Prop} (h0 : P []) (hs : ∀ xs x, P xs → P (xs ++ [x])) (xs : List α) : P xs := by
  have key : ∀ n, P (xs.take n) := by
    intro n
    induction n with
    | zero => exact h0
    | succ n ih =>
      cases e : xs[n]? with
      | none =>
        have := List.getElem?_eq_none_iff.mp e
        rw [List.take_of_length_le (by omega)] at ih ⊢
        exact ih
      | some x =>
        rw [take_snoc e]
        exact hs _ _ ih
  have := key xs.length
  rwa [List.take_length] at this
theorem lset_all (rs : List Rl) : (∀ w, w ∈ lset rs ↔ ∃ r ∈ rs, r.1 = w) ∧ (lset rs).Nodup ∧ (lset rs).length ≤ rs.length := by
  refine rev_ind (P := fun rs => (∀ w, w ∈ lset rs ↔ ∃ r ∈ rs, r.1 = w) ∧ (lset rs).Nodup ∧ (lset rs).length ≤ rs.length) ⟨fun w => ?_, List.nodup_nil, Nat.le_refl _⟩ (fun xs x ⟨h1, h2, h3⟩ => ?_) rs
  · show w ∈ [] ↔ _
    simp
  · rw [lset_snoc]
    by_cases hx : x.1 ∈ lset xs
    · rw [if_pos hx]
      refine ⟨fun w => ⟨fun hw => ?_, fun hw => ?_⟩, h2, by rw [List.length_append]; omega⟩
      · obtain ⟨r, hr, e⟩ := (h1 w).mp hw
        exact ⟨r, List.mem_append_left _ hr, e⟩
      · obtain ⟨r, hr, e⟩ := hw
        rcases List.mem_append.mp hr with z | z
        · exact (h1 w).mpr ⟨r, z, e⟩
        · rw [← e, List.mem_singleton.mp z]; exact hx
    · rw [if_neg hx]
      refine ⟨fun w => ⟨fun hw => ?_, fun hw => ?_⟩, ?_, by rw [List.length_append, List.length_append, List.length_singleton, List.length_singleton]; omega⟩
      · rcases List.mem_append.mp hw with z | z
        · obtain ⟨r, hr, e⟩ := (h1 w).mp z
          exact ⟨r, List.mem_append_left _ hr, e⟩
        · exact ⟨x, by simp, (List.mem_singleton.mp z).symm⟩
      · obtain ⟨r, hr, e⟩ := hw
        rcases List.mem_append.mp hr with z | z
        · exact List.mem_append_left _ ((h1 w).mpr ⟨r, z, e⟩)
        · rw [← e, List.mem_singleton.mp z]; simp
      · rw [List.nodup_append]
        refine ⟨h2, by simp, fun a ha b hb => ?_⟩
        rw [List.mem_singleton.mp hb]
        exact fun e => hx (e ▸ ha)
def kD (ks : List W) : List (DKey × Dat) := ks.map fun w => (.s w, .bl true)
theorem kD_any (ks : List W) (w : W) : ((kD ks).any fun kv => decide (kv.1 = DKey.s w)) = true ↔ w ∈ ks := by
  unfold kD
  rw [List.any_map, List.any_eq_true]
  constructor
  · rintro ⟨x, hx, e⟩
    have : DKey.s x = DKey.s w := of_decide_eq_true e
    injection this with this
    exact this ▸ hx
  · intro h
    exact ⟨w, h, decide_eq_true rfl⟩
theorem put_kD (ks : List W) (w : W) : putKV (kD ks) (.s w) (.bl true) = kD (if w ∈ ks then ks else ks ++ [w]) := by
  unfold putKV
  by_cases h : w ∈ ks
  · rw [if_pos ((kD_any ks w).mpr h), if_pos h]
    conv => rhs; rw [← List.map_id (kD ks)]
    refine List.map_congr_left fun kv hkv => ?_
    obtain ⟨x, _, rfl⟩ := List.mem_map.mp hkv
    dsimp only
    split <;> rfl
  · rw [if_neg (fun z => h ((kD_any ks w).mp z)), if_neg h]
    unfold kD
    rw [List.map_append]
    rfl
theorem kD_val (ks : List W) (w : W) : (valD (kD ks) (.s w)).isSome = true ↔ w ∈ ks := by
  unfold valD
  rw [Option.isSome_map, List.find?_isSome, ← kD_any, List.any_eq_true]
theorem kD_keys (rs : List Rl) : KeysOf rs (kD (lset rs)) := fun w => by rw [kD_val, (lset_all rs).1]
theorem kD_dat (ks : List W) : (kD ks).map (fun p => keyDat p.1) = ks.map Dat.str := by
  unfold kD
  rw [List.map_map]
  rfl
/-! the least left sides in order -/
def LMin (rs : List Rl) (ls : List W) : Prop := ls.Pairwise (fun a b => kLt b a = false) ∧ ls.Nodup ∧ ∀ l, l ∈ ls ↔ MinL rs l
theorem LMin.one {rs ns : List Rl} {ls ms : List W} (h : LMin rs ls) (k : LMin ns ms) (e : ∀ l, MinL rs l ↔ MinL ns l) : ls = ms := by
  have hp : ls.Perm ms := (List.perm_ext_iff_of_nodup h.2.1 k.2.1).mpr fun l => by rw [h.2.2, k.2.2, e]
  exact hp.eq_of_pairwise (le := fun a b => kLt b a = false) (fun a b _ _ h1 h2 => kLt_total h2 h1) h.1 k.1
theorem LMin.of {rs : List Rl} {ks : List W} {p : W → Bool} (hk : ∀ w, w ∈ ks ↔ ∃ r ∈ rs, r.1 = w) (hn : ks.Nodup) (hp : ∀ l ∈ ks, (p l = true ↔ ¬ Inside rs l)) {ls : List (List Atm)} (h1 : ls.Perm ((ks.filter p).map key2)) (h2 : ls.Pairwise kle) : ∃ ms, ls = ms.map key2 ∧ LMin rs ms := by
  let un : List Atm → W := fun k => match k with
    | [_, Sum.inr t] => t
    | _ => []
  have hu : ∀ w, un (key2 w) = w := fun w => rfl
  have e : ls = (ls.map un).map key2 := by
    rw [List.map_map]
    conv => lhs; rw [← List.map_id ls]
    refine List.map_congr_left fun k hk => ?_
    obtain ⟨o, _, rfl⟩ := List.mem_map.mp (h1.mem_iff.mp hk)
    rfl
  have hperm : (ls.map un).Perm (ks.filter p) := by
    have := h1.map un
    rw [List.map_map, show un ∘ key2 = id from funext hu, List.map_id] at this
    exact this
  refine ⟨ls.map un, e, ?_, hperm.nodup_iff.mpr (hn.filter p), fun l => ?_⟩
  · rw [e, List.pairwise_map] at h2
    exact h2.imp fun {a b} h => by rw [kLt_key]; exact h
  · rw [hperm.mem_iff, List.mem_filter, hk, minL_inside]
    constructor
    · rintro ⟨h, k⟩
      exact ⟨h, (hp l ((hk l).mpr h)).mp k⟩
    · rintro ⟨h, k⟩
      exact ⟨h, (hp l ((hk l).mpr h)).mpr k⟩
/-- the least book -/
def lbook (rs : List Rl) (ls : List W) : List Rl := ls.map fun l => (l, left rs l)
theorem lbook_same {rs ns : List Rl} (g1 : Good rs) (g2 : Good ns) (c1 : Conf rs) (c2 : Conf ns) {ls ms : List W} (h : LMin rs ls) (k : LMin ns ms) : lbook rs ls = lbook ns ms ↔ ((∀ l ∈ rs, left rs l.1 = left ns l.1) ∧ ∀ l ∈ ns, left rs l.1 = left ns l.1) := by
  constructor
  · intro e
    have e1 : ls = ms := by
      have := congrArg (List.map (·.1)) e
      unfold lbook at this
      rw [List.map_map, List.map_map] at this
      have i : ∀ (q : List Rl) (z : List W), z.map ((·.1) ∘ fun l => (l, left q l)) = z := fun q z => by
        rw [show ((·.1) ∘ fun l => (l, left q l) : W → W) = id from rfl, List.map_id]
      rw [i, i] at this
      exact this
    have hm : ∀ l, MinL rs l ↔ MinL ns l := fun l => by rw [← h.2.2, ← k.2.2, e1]
    have hl : ∀ l, MinL rs l → left rs l = left ns l := fun l hl => by
      have hl' := (h.2.2 l).mpr hl
      subst e1
      have := List.map_inj_left.mp e l hl'
      injection this
    have all := fun t => same_of_min g1 g2 c1 c2 hm hl _ t (Nat.le_refl _)
    exact ⟨fun l _ => all l.1, fun l _ => all l.1⟩
  · rintro ⟨h1, h2⟩
    have all := same_all g1 g2 c1 c2 h1 h2
    have e1 : ls = ms := h.one k (minL_same g1 g2 all)
    subst e1
    unfold lbook
    exact List.map_congr_left fun l _ => by rw [all]
end WM

end

section
/-! All texts of at most so many signs, ascending. -/
namespace WM
open PySem L2 BV PyProof.Rows
def ext (sg : W) (t : W) : List W := sg.map fun c => t ++ [c]
def lvl (sg : W) : Nat → List W
  | 0 => [[]]
  | n + 1 => (lvl sg n).flatMap (ext sg)
def txs (sg : W) : Nat → List W
  | 0 => [[]]
  | n + 1 => txs sg n ++ lvl sg (n + 1)
theorem ext_len (sg t : W) : (ext sg t).length = sg.length := List.length_map _
theorem lvl_len (sg : W) : ∀ n, (lvl sg n).length = sg.length ^ n
  | 0 => rfl
  | n + 1 => by
    show ((lvl sg n).flatMap (ext sg)).length = _
    rw [flat_len (ext sg) sg.length _ fun x _ => ext_len sg x, lvl_len sg n, Nat.pow_succ]
theorem lvl_mem {sg : W} : ∀ {n : Nat} {t : W}, t ∈ lvl sg n ↔ t.length = n ∧ ∀ c ∈ t, c ∈ sg
  | 0, t => by
    show t ∈ [[]] ↔ _
    rw [List.mem_singleton]
    constructor
    · rintro rfl; exact ⟨rfl, fun c hc => by cases hc⟩
    · rintro ⟨h, _⟩; exact List.eq_nil_of_length_eq_zero h
  | n + 1, t => by
    show t ∈ (lvl sg n).flatMap (ext sg) ↔ _
    rw [List.mem_flatMap]
    constructor
    · rintro ⟨u, hu, ht⟩
      obtain ⟨c, hc, rfl⟩ := List.mem_map.mp ht
      obtain ⟨h1, h2⟩ := lvl_mem.mp hu
      refine ⟨by rw [List.length_append, h1]; rfl, fun d hd => ?_⟩
      rcases List.mem_append.mp hd with z | z
      · exact h2 d z
      · rw [List.mem_singleton.mp z]; exact hc
    · rintro ⟨h1, h2⟩
      have hne : t ≠ [] := fun e => by rw [e] at h1; cases h1
      refine ⟨t.dropLast, lvl_mem.mpr ⟨by rw [List.length_dropLast, h1]; rfl, fun c hc => h2 c ((List.dropLast_sublist t).subset hc)⟩, List.mem_map.mpr ⟨t.getLast hne, h2 _ (List.getLast_mem hne), List.dropLast_concat_getLast hne⟩⟩
theorem txs_mem {sg : W} : ∀ {n : Nat} {t : W}, t ∈ txs sg n ↔ t.length ≤ n ∧ ∀ c ∈ t, c ∈ sg
  | 0, t => by
    show t ∈ lvl sg 0 ↔ _
    rw [lvl_mem]
    constructor
    · rintro ⟨h, k⟩; exact ⟨by omega, k⟩
    · rintro ⟨h, k⟩; exact ⟨by omega, k⟩
  | n + 1, t => by
    show t ∈ txs sg n ++ lvl sg (n + 1) ↔ _
    rw [List.mem_append, txs_mem, lvl_mem]
    constructor
    · rintro (⟨h, k⟩ | ⟨h, k⟩)
      · exact ⟨by omega, k⟩
      · exact ⟨by omega, k⟩
    · rintro ⟨h, k⟩
      rcases Nat.lt_or_ge t.length (n + 1) with z | z
      · exact .inl ⟨by omega, k⟩
      · exact .inr ⟨by omega, k⟩
theorem txs_len (sg : W) (h : sg.length ≤ 3) (n : Nat) (hn : n ≤ 4) : (txs sg n).length ≤ 121 ∧ (lvl sg n).length ≤ 81 := by
  have p : ∀ k, k ≤ 4 → sg.length ^ k ≤ 3 ^ k := fun k _ => Nat.pow_le_pow_left h k
  have l : ∀ k, (lvl sg k).length = sg.length ^ k := lvl_len sg
  have p1 := p 1 (by omega)
  have p2 := p 2 (by omega)
  have p3 := p 3 (by omega)
  have p4 := p 4 (by omega)
  have e0 : (txs sg 0).length = 1 := rfl
  have e : ∀ k, (txs sg (k + 1)).length = (txs sg k).length + (lvl sg (k + 1)).length := fun k => List.length_append
  have e1 := e 0
  have e2 := e 1
  have e3 := e 2
  have e4 := e 3
  have l0 := l 0
  have l1 := l 1
  have l2 := l 2
  have l3 := l 3
  have l4 := l 4
  simp only [Nat.zero_add, Nat.reduceAdd, Nat.reducePow, Nat.pow_zero] at *
  rcases (show n = 0 ∨ n = 1 ∨ n = 2 ∨ n = 3 ∨ n = 4 by omega) with rfl | rfl | rfl | rfl | rfl <;> constructor <;> omega
end WM

end

section
/-! The first text that parts two books is the least one. -/
namespace WM
open PySem L2 BV PyProof.Rows
theorem part_left_in {sg : W} {rs ns : List Rl} (g1 : Good rs) (g2 : Good ns) (c1 : Conf rs) (c2 : Conf ns) (i1 : ∀ r ∈ rs, (∀ c ∈ r.1, c ∈ sg) ∧ ∀ c ∈ r.2, c ∈ sg) (i2 : ∀ r ∈ ns, (∀ c ∈ r.1, c ∈ sg) ∧ ∀ c ∈ r.2, c ∈ sg)
    {t : W} (ht : ∀ c ∈ t, c ∈ sg) (hne : left rs t ≠ left ns t) (hs : ∀ u : W, (∀ c ∈ u, c ∈ sg) → u.length < t.length → left rs u = left ns u) : ∃ l, (l ∈ rs ∨ l ∈ ns) ∧ l.1 = t := by
  have chars : ∀ {ps : List Rl}, (∀ r ∈ ps, (∀ c ∈ r.1, c ∈ sg) ∧ ∀ c ∈ r.2, c ∈ sg) → ∀ {u v : W}, Rch ps u v → (∀ c ∈ u, c ∈ sg) → ∀ c ∈ v, c ∈ sg := fun {ps} ip {u v} s hu => by
    induction s with
    | refl _ => exact hu
    | step s _ ih =>
      refine ih ?_
      obtain ⟨a, b, r, hr, rfl, rfl⟩ := s
      intro c hc
      simp only [List.mem_append] at hc hu
      rcases hc with (hc | hc) | hc
      · exact hu c (.inl (.inl hc))
      · exact (ip r hr).2 c hc
      · exact hu c (.inr hc)
  have key : ∀ {ps qs : List Rl}, Good ps → Good qs → Conf ps → Conf qs → (∀ r ∈ ps, (∀ c ∈ r.1, c ∈ sg) ∧ ∀ c ∈ r.2, c ∈ sg) → left ps t ≠ left qs t → (∀ u : W, (∀ c ∈ u, c ∈ sg) → u.length < t.length → left ps u = left qs u) → ¬ Irr ps t → ∃ l ∈ ps, l.1 = t := fun {ps qs} g1 g2 c1 c2 ip hne hs hi => by
    obtain ⟨a, b, r, hr, e⟩ := not_irr hi
    by_cases hab : a = [] ∧ b = []
    · obtain ⟨rfl, rfl⟩ := hab
      exact ⟨r, hr, by rw [e]; simp⟩
    · exfalso
      have hl := congrArg List.length e
      simp only [List.length_append] at hl
      have hr1 : r.1.length < t.length := by
        rcases Nat.lt_or_ge r.1.length t.length with z | z
        · exact z
        · exact absurd ⟨List.eq_nil_of_length_eq_zero (by omega), List.eq_nil_of_length_eq_zero (by omega)⟩ hab
      have e1 := hs r.1 (ip r hr).1 hr1
      have ni : ¬ Irr ps r.1 := fun z => z [] [] r hr (by simp)
      have hsh := left_short g1 ni
      have hin : ∀ c ∈ a ++ left ps r.1 ++ b, c ∈ sg := fun c hc => by
        rw [e] at ht
        simp only [List.mem_append] at hc ht
        rcases hc with (hc | hc) | hc
        · exact ht c (.inl (.inl hc))
        · exact chars ip (left_rch ps r.1) (ip r hr).1 c hc
        · exact ht c (.inr hc)
      have e2 := hs (a ++ left ps r.1 ++ b) hin (by simp only [List.length_append]; omega)
      refine hne ?_
      rw [e, left_ctx c1 (left_rch ps r.1), left_ctx c2 (left_rch qs r.1), ← e1]
      exact e2
  by_cases hi : Irr rs t
  · by_cases hj : Irr ns t
    · exact absurd (by rw [left_id hi, left_id hj]) hne
    · obtain ⟨l, hl, e⟩ := key g2 g1 c2 c1 i2 (Ne.symm hne) (fun u h hu => (hs u h hu).symm) hj
      exact ⟨l, .inr hl, e⟩
  · obtain ⟨l, hl, e⟩ := key g1 g2 c1 c2 i1 hne hs hi
    exact ⟨l, .inl hl, e⟩
theorem lt_app : ∀ {a b : W} (x y : W), a.length = b.length → a < b → a ++ x < b ++ y
  | [], [], x, y, _, h => absurd h (by simp)
  | [], _ :: _, x, y, h, _ => by cases h
  | _ :: _, [], x, y, h, _ => by cases h
  | p :: a, q :: b, x, y, hl, h => by
    rw [List.cons_lt_cons_iff] at h
    rw [List.cons_append, List.cons_append, List.cons_lt_cons_iff]
    rcases h with h | ⟨h, k⟩
    · exact .inl h
    · exact .inr ⟨h, lt_app x y (by simpa using hl) k⟩
theorem app_lt : ∀ (t : W) {c d : Nat}, c < d → t ++ [c] < t ++ [d]
  | [], c, d, h => by
    show [c] < [d]
    rw [List.cons_lt_cons_iff]
    exact .inl h
  | p :: t, c, d, h => by
    rw [List.cons_append, List.cons_append, List.cons_lt_cons_iff]
    exact .inr ⟨rfl, app_lt t h⟩
theorem kLt_same {a b : W} (h : a.length = b.length) (k : a < b) : kLt a b = true := by
  unfold kLt
  simp [h, k]
theorem kLt_short {a b : W} (h : a.length < b.length) : kLt a b = true := by
  unfold kLt
  simp [h]
theorem find_least {p : W → Bool} : ∀ {xs : List W} {u : W}, xs.Pairwise (fun a b => kLt a b = true) → xs.find? p = some u → p u = true ∧ u ∈ xs ∧ ∀ v ∈ xs, p v = true → kLt v u = false
  | [], u, _, h => by cases h
  | x :: xs, u, hp, h => by
    rw [List.pairwise_cons] at hp
    rw [List.find?_cons] at h
    cases e : p x with
    | true =>
      rw [e] at h
      cases h
      refine ⟨e, List.mem_cons_self, fun v hv hpv => ?_⟩
      rcases List.mem_cons.mp hv with rfl | hv
      · exact kLt_irrefl _
      · have h1 := hp.1 v hv
        exact kLt_step h1 (kLt_irrefl v)
    | false =>
      rw [e] at h
      obtain ⟨h1, h2, h3⟩ := find_least hp.2 h
      refine ⟨h1, List.mem_cons_of_mem _ h2, fun v hv hpv => ?_⟩
      rcases List.mem_cons.mp hv with rfl | hv
      · rw [e] at hpv; cases hpv
      · exact h3 v hv hpv
theorem asc_ext {sg : W} (h : sg.Pairwise (· < ·)) (t : W) : (ext sg t).Pairwise (· < ·) := by
  unfold ext
  rw [List.pairwise_map]
  exact h.imp fun k => app_lt t k
theorem asc_lvl {sg : W} (h : sg.Pairwise (· < ·)) : ∀ n, (lvl sg n).Pairwise (fun a b => kLt a b = true)
  | 0 => List.pairwise_singleton _ _
  | n + 1 => by
    show ((lvl sg n).flatMap (ext sg)).Pairwise _
    rw [List.pairwise_flatMap]
    refine ⟨fun t ht => ?_, ?_⟩
    · refine (asc_ext h t).imp_of_mem fun {a b} ha hb k => ?_
      obtain ⟨c, _, rfl⟩ := List.mem_map.mp ha
      obtain ⟨d, _, rfl⟩ := List.mem_map.mp hb
      exact kLt_same (by simp) k
    · refine (asc_lvl h n).imp_of_mem fun {u v} hu hv k x hx y hy => ?_
      obtain ⟨c, _, rfl⟩ := List.mem_map.mp hx
      obtain ⟨d, _, rfl⟩ := List.mem_map.mp hy
      have e1 := (lvl_mem.mp hu).1
      have e2 := (lvl_mem.mp hv).1
      have hl : u.length = v.length := by rw [e1, e2]
      refine kLt_same (by simp [hl]) (lt_app _ _ hl ?_)
      unfold kLt at k
      simpa [hl] using k
theorem asc_txs {sg : W} (h : sg.Pairwise (· < ·)) : ∀ n, (txs sg n).Pairwise (fun a b => kLt a b = true)
  | 0 => List.pairwise_singleton _ _
  | n + 1 => by
    show (txs sg n ++ lvl sg (n + 1)).Pairwise _
    rw [List.pairwise_append]
    refine ⟨asc_txs h n, asc_lvl h (n + 1), fun a ha b hb => ?_⟩
    have h1 := (txs_mem.mp ha).1
    have h2 := (lvl_mem.mp hb).1
    exact kLt_short (by omega)
theorem signs_asc : ∀ sg ∈ Signs, sg.Pairwise (· < ·) := by decide +kernel
/-- the left sides at which both part -/
def PartsL (rs ns : List Rl) : List W := ((rs ++ ns).map (·.1)).filter fun l => decide (left rs l ≠ left ns l)
theorem partsL_mem {rs ns : List Rl} {l : W} : l ∈ PartsL rs ns ↔ (∃ r, (r ∈ rs ∨ r ∈ ns) ∧ r.1 = l) ∧ left rs l ≠ left ns l := by
  unfold PartsL
  rw [List.mem_filter, List.mem_map, decide_eq_true_eq]
  simp only [List.mem_append]
theorem partsL_nil {rs ns : List Rl} : PartsL rs ns = [] ↔ (∀ l ∈ rs, left rs l.1 = left ns l.1) ∧ ∀ l ∈ ns, left rs l.1 = left ns l.1 := by
  rw [List.eq_nil_iff_forall_not_mem]
  constructor
  · intro h
    exact ⟨fun l hl => Classical.byContradiction fun k => h l.1 (partsL_mem.mpr ⟨⟨l, .inl hl, rfl⟩, k⟩), fun l hl => Classical.byContradiction fun k => h l.1 (partsL_mem.mpr ⟨⟨l, .inr hl, rfl⟩, k⟩)⟩
  · rintro ⟨h1, h2⟩ l hl
    obtain ⟨⟨r, hr, rfl⟩, k⟩ := partsL_mem.mp hl
    rcases hr with hr | hr
    · exact k (h1 r hr)
    · exact k (h2 r hr)
theorem first_part {sg : W} {rs ns : List Rl} (g1 : Good rs) (g2 : Good ns) (c1 : Conf rs) (c2 : Conf ns) (i1 : ∀ r ∈ rs, (∀ c ∈ r.1, c ∈ sg) ∧ ∀ c ∈ r.2, c ∈ sg) (i2 : ∀ r ∈ ns, (∀ c ∈ r.1, c ∈ sg) ∧ ∀ c ∈ r.2, c ∈ sg) (ha : sg.Pairwise (· < ·))
    {t : W} (ht : LeastOf (PartsL rs ns) t) : (txs sg 4).find? (fun u => decide (left rs u ≠ left ns u)) = some t := by
  obtain ⟨⟨r, hr, rfl⟩, hne⟩ := partsL_mem.mp ht.1
  have h4 : r.1.length ≤ 4 ∧ ∀ c ∈ r.1, c ∈ sg := by
    rcases hr with hr | hr
    · exact ⟨(g1 r hr).2.1, (i1 r hr).1⟩
    · exact ⟨(g2 r hr).2.1, (i2 r hr).1⟩
  have hin := txs_mem.mpr h4
  cases e : (txs sg 4).find? (fun u => decide (left rs u ≠ left ns u)) with
  | none =>
    have := List.find?_eq_none.mp e _ hin
    exact absurd (decide_eq_true hne) this
  | some u =>
    obtain ⟨h1, h2, h3⟩ := find_least (asc_txs ha 4) e
    have hu := txs_mem.mp h2
    obtain ⟨l, hl, el⟩ := part_left_in g1 g2 c1 c2 i1 i2 hu.2 (of_decide_eq_true h1) fun v hv hlt => Classical.byContradiction fun k => by
      have h5 := h3 v (txs_mem.mpr ⟨by omega, hv⟩) (decide_eq_true k)
      rw [kLt_short hlt] at h5
      cases h5
    have hup : u ∈ PartsL rs ns := partsL_mem.mpr ⟨⟨l, hl, el⟩, of_decide_eq_true h1⟩
    rw [kLt_total (ht.2 u hup) (h3 _ hin (decide_eq_true hne))]
theorem first_none {sg : W} {rs ns : List Rl} (g1 : Good rs) (g2 : Good ns) (c1 : Conf rs) (c2 : Conf ns) (h : PartsL rs ns = []) : (txs sg 4).find? (fun u => decide (left rs u ≠ left ns u)) = none := by
  obtain ⟨h1, h2⟩ := partsL_nil.mp h
  exact List.find?_eq_none.mpr fun u _ => by simp [same_all g1 g2 c1 c2 h1 h2 u]
end WM

end

section
/-! books with the same ends; a text within a text; the least book by substrings -/
namespace WM
open PySem L2 BV PyProof.Rows
theorem occ_iff {i j : W} : occ i j = true ↔ ∃ a b, j = a ++ i ++ b := by
  unfold occ
  rw [PySem.StrLaws.found_iff]
  constructor
  · rintro ⟨k, h1, h2⟩
    rw [PySem.StrLaws.subAt_eq, S_list, S_list, S_len, beq_iff_eq] at h2
    refine ⟨j.take k, j.drop (k + i.length), ?_⟩
    have e1 := List.take_append_drop k j
    have e2 := List.take_append_drop i.length (j.drop k)
    rw [h2, List.drop_drop] at e2
    rw [List.append_assoc, e2, e1]
  · rintro ⟨a, b, rfl⟩
    refine ⟨a.length, by rw [S_len, S_len]; simp only [List.length_append]; omega, ?_⟩
    rw [PySem.StrLaws.subAt_eq, S_list, S_list, S_len, beq_iff_eq, List.append_assoc, List.drop_left, List.take_left]
/-- rules that say nothing new, and bring all texts to ends -/
theorem conf_like {rs ps : List Rl} (gp : Good ps) (c : Conf rs) (hs : ∀ r ∈ ps, left rs r.1 = left rs r.2) (hi : ∀ t, Irr ps t → Irr rs t) : Conf ps ∧ ∀ t, left ps t = left rs t := by
  have stp : ∀ {u v}, Stp ps u v → left rs u = left rs v := fun {u v} ⟨a, b, r, hr, e1, e2⟩ => by
    rw [e1, e2, left_ctx c (left_rch rs r.1), left_ctx c (left_rch rs r.2), hs r hr]
  have rch : ∀ {u v}, Rch ps u v → left rs u = left rs v := fun {u v} k => by
    induction k with
    | refl _ => rfl
    | step s _ ih => exact (stp s).trans ih
  have e : ∀ t, left ps t = left rs t := fun t => by
    rw [rch (left_rch ps t), left_id (hi _ (left_irr gp t))]
  refine ⟨fun u v s => ?_, e⟩
  rw [e, e]
  exact stp s
theorem left_twice {rs : List Rl} (g : Good rs) (t : W) : left rs (left rs t) = left rs t := left_id (left_irr g t)
/-- more rules that say nothing new -/
theorem conf_more {rs ps : List Rl} (gp : Good ps) (c : Conf rs) (hsub : ∀ r ∈ rs, r ∈ ps) (hs : ∀ r ∈ ps, left rs r.1 = left rs r.2) : Conf ps ∧ ∀ t, left ps t = left rs t :=
  conf_like gp c hs fun t h a b r hr e => h a b r (hsub r hr) e
/-- the least book has the same ends -/
theorem lbook_like {rs : List Rl} {ls : List W} (g : Good rs) (c : Conf rs) (h : LMin rs ls) (gp : Good (lbook rs ls)) : Conf (lbook rs ls) ∧ ∀ t, left (lbook rs ls) t = left rs t := by
  refine conf_like gp c (fun r hr => ?_) fun t hi => Classical.byContradiction fun hn => ?_
  · obtain ⟨l, _, rfl⟩ := List.mem_map.mp hr
    exact (left_twice g l).symm
  · obtain ⟨a, l, b, e, hl⟩ := has_min _ t (Nat.le_refl _) hn
    exact hi a b (l, left rs l) (List.mem_map.mpr ⟨l, (h.2.2 l).mpr hl, rfl⟩) e
/-- the least left sides among all left sides in order: those that hold no other one -/
theorem LMin.sub {rs : List Rl} {ls : List W} (hp : ls.Perm (lset rs)) (ho : ls.Pairwise fun a b => kLt b a = false) : LMin rs (ls.filter fun l => (ls.filter fun o => decide (o ≠ l) && occ o l).isEmpty) := by
  obtain ⟨q1, q2, _⟩ := lset_all rs
  have hm : ∀ l, l ∈ ls ↔ ∃ r ∈ rs, r.1 = l := fun l => by rw [hp.mem_iff, q1]
  refine ⟨ho.filter _, (hp.nodup_iff.mpr q2).filter _, fun l => ?_⟩
  rw [List.mem_filter, hm, List.isEmpty_iff, List.filter_eq_nil_iff]
  constructor
  · rintro ⟨h1, h2⟩
    refine ⟨h1, fun r hr a b e => ?_⟩
    have h3 := h2 r.1 ((hm _).mpr ⟨r, hr, rfl⟩)
    rw [Bool.and_eq_true, decide_eq_true_iff, occ_iff] at h3
    have h4 : r.1 = l := Classical.byContradiction fun z => h3 ⟨z, a, b, e⟩
    have hl := congrArg List.length e
    rw [h4] at hl
    simp only [List.length_append] at hl
    exact ⟨List.eq_nil_of_length_eq_zero (by omega), List.eq_nil_of_length_eq_zero (by omega)⟩
  · rintro ⟨h1, h2⟩
    refine ⟨h1, fun o hoo => ?_⟩
    obtain ⟨r, hr, rfl⟩ := (hm o).mp hoo
    rw [Bool.and_eq_true, decide_eq_true_iff, occ_iff]
    rintro ⟨h3, a, b, e⟩
    obtain ⟨rfl, rfl⟩ := h2 r hr a b e
    exact h3 (by rw [e]; simp)
/-- without one of its rules the least book leaves that rule's left side as it is -/
theorem fewer_left {rs : List Rl} {ls : List W} (h : LMin rs ls) {k : Nat} {l : W} (hk : ls[k]? = some l) : left ((lbook rs ls).take k ++ (lbook rs ls).drop (k + 1)) l = l := by
  refine left_id fun a b r hr e => ?_
  have hsub : (ls.take k ++ ls.drop (k + 1)).Nodup ∧ l ∉ ls.take k ++ ls.drop (k + 1) := by
    have e1 : ls = ls.take k ++ l :: ls.drop (k + 1) := by
      have hlt := (List.getElem?_eq_some_iff.mp hk).1
      have h1 := List.take_append_drop k ls
      rw [List.drop_eq_getElem_cons hlt, (List.getElem?_eq_some_iff.mp hk).2] at h1
      exact h1.symm
    have hn := h.2.1
    rw [e1] at hn
    have hn2 := (List.perm_middle (a := l) (l₁ := ls.take k) (l₂ := ls.drop (k + 1))).nodup_iff.mp hn
    rw [List.nodup_cons] at hn2
    exact ⟨hn2.2, hn2.1⟩
  have hr2 : r ∈ lbook rs (ls.take k ++ ls.drop (k + 1)) := by
    unfold lbook at hr ⊢
    rw [← List.map_take, ← List.map_drop, ← List.map_append] at hr
    exact hr
  obtain ⟨o, ho, rfl⟩ := List.mem_map.mp hr2
  have hom : o ∈ ls := by
    rcases List.mem_append.mp ho with z | z
    · exact List.mem_of_mem_take z
    · exact List.mem_of_mem_drop z
  obtain ⟨⟨q, hq, eq⟩, _⟩ := (h.2.2 o).mp hom
  have hl := ((h.2.2 l).mp (List.mem_of_getElem? hk)).2 q hq a b (by rw [eq]; exact e)
  obtain ⟨rfl, rfl⟩ := hl
  refine hsub.2 ?_
  have : l = o := by rw [e]; simp
  rw [this]
  exact ho
end WM

end

section
/-! the ends of images -/
namespace WM
open PySem L2 BV PyProof.Rows
theorem ix_at {sg : W} {c : Nat} (h : c ∈ sg) : sg[sg.idxOf c]? = some c := by
  have hl := List.idxOf_lt_length_of_mem h
  rw [List.getElem?_eq_getElem hl, List.getElem_idxOf]
theorem ix_lt {sg : W} {c j : Nat} (h : j < sg.idxOf c) : sg[j]? ≠ some c := fun e => by
  obtain ⟨hl, he⟩ := List.getElem?_eq_some_iff.mp e
  have := List.not_of_lt_findIdx (p := (· == c)) (xs := sg) h
  simp [he] at this
def imAt (sg : W) (ims : List W) (c : Nat) : W := ims.getD (sg.idxOf c) []
def imCat (sg : W) (ims : List W) (t : W) : W := t.flatMap (imAt sg ims)
def imEnd (rs : List Rl) (sg : W) (ims : List W) (t : W) : W := t.foldl (fun e c => left rs (e ++ imAt sg ims c)) []
theorem imEnd_snoc (rs : List Rl) (sg : W) (ims : List W) (t : W) (c : Nat) : imEnd rs sg ims (t ++ [c]) = left rs (imEnd rs sg ims t ++ imAt sg ims c) := by
  unfold imEnd
  rw [List.foldl_append]
  rfl
theorem imAt_len {sg : W} {ims : List W} {m : Nat} (h : ∀ w ∈ ims, w.length ≤ m) (c : Nat) : (imAt sg ims c).length ≤ m := by
  unfold imAt
  rw [List.getD_eq_getElem?_getD]
  cases e : ims[sg.idxOf c]? with
  | none => exact Nat.zero_le _
  | some w => exact h w (List.mem_of_getElem? e)
theorem imEnd_len {rs : List Rl} (g : Good rs) {sg : W} {ims : List W} {m : Nat} (h : ∀ w ∈ ims, w.length ≤ m) (t : W) : (imEnd rs sg ims t).length ≤ t.length * m := by
  refine rev_ind (P := fun t => (imEnd rs sg ims t).length ≤ t.length * m) (Nat.zero_le _) (fun t c ih => ?_) t
  rw [imEnd_snoc, List.length_append, List.length_singleton, Nat.succ_mul]
  have h1 := left_len g (imEnd rs sg ims t ++ imAt sg ims c)
  have h2 := imAt_len (sg := sg) h c
  rw [List.length_append] at h1
  omega
theorem imEnd_left {rs : List Rl} (g : Good rs) (c : Conf rs) (sg : W) (ims : List W) (t : W) : imEnd rs sg ims t = left rs (imCat sg ims t) := by
  refine rev_ind (P := fun t => imEnd rs sg ims t = left rs (imCat sg ims t)) ?_ (fun t d ih => ?_) t
  · have := left_len g (imCat sg ims [])
    exact (List.eq_nil_of_length_eq_zero (Nat.le_zero.mp this)).symm
  · rw [imEnd_snoc, ih]
    have h := left_ctx c (left_rch rs (imCat sg ims t)) [] (imAt sg ims d)
    simp only [List.nil_append] at h
    rw [← h]
    unfold imCat
    rw [List.flatMap_append, List.flatMap_singleton]
theorem imCat_app (sg : W) (ims : List W) (a b : W) : imCat sg ims (a ++ b) = imCat sg ims a ++ imCat sg ims b := List.flatMap_append
/-- where all rules are kept, runs keep the ends of the images -/
theorem imEnd_rch {rs ps : List Rl} (g : Good rs) (c : Conf rs) {sg : W} {ims : List W} (h : ∀ r ∈ ps, imEnd rs sg ims r.1 = imEnd rs sg ims r.2) {t u : W} (s : Rch ps t u) : imEnd rs sg ims t = imEnd rs sg ims u := by
  induction s with
  | refl _ => rfl
  | step s _ ih =>
    refine Eq.trans ?_ ih
    obtain ⟨a, b, r, hr, rfl, rfl⟩ := s
    have e := h r hr
    rw [imEnd_left g c, imEnd_left g c] at e ⊢
    simp only [imCat_app]
    rw [left_ctx c (left_rch rs (imCat sg ims r.1)), left_ctx c (left_rch rs (imCat sg ims r.2)), e]
def badR (rs : List Rl) (sg : W) (ims : List W) (r : Rl) : Bool := decide (imEnd rs sg ims r.1 ≠ imEnd rs sg ims r.2)
/-- the first rule that is not kept -/
def lostAt (rs : List Rl) (sg : W) (ims : List W) (ps : List Rl) : Option Nat := ps.findIdx? (badR rs sg ims)
theorem lost_some {rs : List Rl} {sg : W} {ims : List W} {ps : List Rl} {i : Nat} {r : Rl} (h : ∀ q ∈ ps.take i, badR rs sg ims q = false) (hr : ps[i]? = some r) (hb : badR rs sg ims r = true) : lostAt rs sg ims ps = some i := by
  obtain ⟨hl, he⟩ := List.getElem?_eq_some_iff.mp hr
  unfold lostAt
  rw [List.findIdx?_eq_some_iff_getElem]
  refine ⟨hl, by rw [he]; exact hb, fun j hj => ?_⟩
  rw [h _ (List.mem_take_iff_getElem.mpr ⟨j, by omega, rfl⟩)]
  decide
theorem lost_none {rs : List Rl} {sg : W} {ims : List W} {ps : List Rl} (h : ∀ q ∈ ps, badR rs sg ims q = false) : lostAt rs sg ims ps = none := List.findIdx?_eq_none_iff.mpr h
theorem lost_kept {rs : List Rl} {sg : W} {ims : List W} {ps : List Rl} (h : lostAt rs sg ims ps = none) : ∀ r ∈ ps, imEnd rs sg ims r.1 = imEnd rs sg ims r.2 := fun r hr => by
  have := List.findIdx?_eq_none_iff.mp h r hr
  exact Classical.byContradiction fun k => by rw [badR, decide_eq_true k] at this; cases this
end WM

end

section
set_option maxHeartbeats 4000000
namespace K60
open PySem L2 BV
def topS (i : Nat) : Stmt := PySem.Challenge.pw_dwindlewise_k60_whole_sendings_keep.main.body.getD i (.Pass ⟨0, 0, 0, 0⟩)
abbrev s_is_listed : Stmt := topS 14
abbrev N_is_listed : List Str := ["thing"]
theorem sc_is_listed : FnScope N_is_listed ["thing"] (defScope s_is_listed) := ⟨rfl, rfl, rfl, by decide +kernel, rfl, by decide +kernel, by decide +kernel⟩
abbrev s_is_signs : Stmt := topS 15
abbrev N_is_signs : List Str := ["thing", "k"]
theorem sc_is_signs : FnScope N_is_signs ["thing"] (defScope s_is_signs) := ⟨rfl, rfl, rfl, by decide +kernel, rfl, by decide +kernel, by decide +kernel⟩
abbrev s_check_signs : Stmt := topS 16
abbrev N_check_signs : List Str := ["thing"]
theorem sc_check_signs : FnScope N_check_signs ["thing"] (defScope s_check_signs) := ⟨rfl, rfl, rfl, by decide +kernel, rfl, by decide +kernel, by decide +kernel⟩
abbrev s_is_text : Stmt := topS 17
abbrev N_is_text : List Str := ["signs", "thing", "low", "high", "sign"]
theorem sc_is_text : FnScope N_is_text ["signs", "thing", "low", "high"] (defScope s_is_text) := ⟨rfl, rfl, rfl, by decide +kernel, rfl, by decide +kernel, by decide +kernel⟩
abbrev s_check_text : Stmt := topS 18
abbrev N_check_text : List Str := ["signs", "thing"]
theorem sc_check_text : FnScope N_check_text ["signs", "thing"] (defScope s_check_text) := ⟨rfl, rfl, rfl, by decide +kernel, rfl, by decide +kernel, by decide +kernel⟩
abbrev s_text_key : Stmt := topS 19
abbrev N_text_key : List Str := ["text"]
theorem sc_text_key : FnScope N_text_key ["text"] (defScope s_text_key) := ⟨rfl, rfl, rfl, by decide +kernel, rfl, by decide +kernel, by decide +kernel⟩
abbrev s_first_rules : Stmt := topS 21
abbrev N_first_rules : List Str := ["rules", "found", "k", "left", "right"]
theorem sc_first_rules : FnScope N_first_rules ["rules"] (defScope s_first_rules) := ⟨rfl, rfl, rfl, by decide +kernel, rfl, by decide +kernel, by decide +kernel⟩
abbrev s_longest_left : Stmt := topS 22
abbrev N_longest_left : List Str := ["rules", "rule"]
theorem sc_longest_left : FnScope N_longest_left ["rules"] (defScope s_longest_left) := ⟨rfl, rfl, rfl, by decide +kernel, rfl, by decide +kernel, by decide +kernel⟩
abbrev s_used_at_end : Stmt := topS 23
abbrev N_used_at_end : List Str := ["lefts", "longest", "pile", "best", "size", "found"]
theorem sc_used_at_end : FnScope N_used_at_end ["lefts", "longest", "pile"] (defScope s_used_at_end) := ⟨rfl, rfl, rfl, by decide +kernel, rfl, by decide +kernel, by decide +kernel⟩
abbrev s_left_over : Stmt := topS 24
abbrev N_left_over : List Str := ["lefts", "longest", "text", "pile", "sign", "shorter"]
theorem sc_left_over : FnScope N_left_over ["lefts", "longest", "text"] (defScope s_left_over) := ⟨rfl, rfl, rfl, by decide +kernel, rfl, by decide +kernel, by decide +kernel⟩
abbrev s_overlap_rows : Stmt := topS 25
abbrev N_overlap_rows : List Str := ["rules", "found", "one", "left", "other", "right", "place", "shared"]
theorem sc_overlap_rows : FnScope N_overlap_rows ["rules"] (defScope s_overlap_rows) := ⟨rfl, rfl, rfl, by decide +kernel, rfl, by decide +kernel, by decide +kernel⟩
abbrev s_both_results : Stmt := topS 26
abbrev N_both_results : List Str := ["rules", "overlap", "text", "one", "place", "other", "first", "second"]
theorem sc_both_results : FnScope N_both_results ["rules", "overlap"] (defScope s_both_results) := ⟨rfl, rfl, rfl, by decide +kernel, rfl, by decide +kernel, by decide +kernel⟩
abbrev s_quarrel_of : Stmt := topS 27
abbrev N_quarrel_of : List Str := ["rules", "lefts", "longest", "best", "overlap", "first", "second"]
theorem sc_quarrel_of : FnScope N_quarrel_of ["rules", "lefts", "longest"] (defScope s_quarrel_of) := ⟨rfl, rfl, rfl, by decide +kernel, rfl, by decide +kernel, by decide +kernel⟩
abbrev s_end_moves : Stmt := topS 28
abbrev N_end_moves : List Str := ["signs", "rules", "lefts", "names", "numbers", "moves", "longest", "row", "sign", "text", "tail", "rule", "left"]
theorem sc_end_moves : FnScope N_end_moves ["signs", "rules"] (defScope s_end_moves) := ⟨rfl, rfl, rfl, by decide +kernel, rfl, by decide +kernel, by decide +kernel⟩
abbrev s_kept_tail : Stmt := topS 29
abbrev N_kept_tail : List Str := ["lefts", "longest", "text", "size", "tail", "left"]
theorem sc_kept_tail : FnScope N_kept_tail ["lefts", "longest", "text"] (defScope s_kept_tail) := ⟨rfl, rfl, rfl, by decide +kernel, rfl, by decide +kernel, by decide +kernel⟩
abbrev s_is_rule : Stmt := topS 33
abbrev N_is_rule : List Str := ["signs", "thing"]
theorem sc_is_rule : FnScope N_is_rule ["signs", "thing"] (defScope s_is_rule) := ⟨rfl, rfl, rfl, by decide +kernel, rfl, by decide +kernel, by decide +kernel⟩
abbrev s_checked_rules : Stmt := topS 34
abbrev N_checked_rules : List Str := ["signs", "thing", "rules", "k"]
theorem sc_checked_rules : FnScope N_checked_rules ["signs", "thing"] (defScope s_checked_rules) := ⟨rfl, rfl, rfl, by decide +kernel, rfl, by decide +kernel, by decide +kernel⟩
abbrev s_Booku_initu : Stmt := inClass (topS 35) 0
abbrev N_Booku_initu : List Str := ["self", "signs", "rules"]
theorem sc_Booku_initu : FnScope N_Booku_initu ["self", "signs", "rules"] (defScope s_Booku_initu) := ⟨rfl, rfl, rfl, by decide +kernel, rfl, by decide +kernel, by decide +kernel⟩
abbrev s_Booku_callu : Stmt := inClass (topS 35) 6
abbrev N_Booku_callu : List Str := ["self", "text"]
theorem sc_Booku_callu : FnScope N_Booku_callu ["self", "text"] (defScope s_Booku_callu) := ⟨rfl, rfl, rfl, by decide +kernel, rfl, by decide +kernel, by decide +kernel⟩
abbrev s_rest_of : Stmt := topS 36
abbrev N_rest_of : List Str := ["book", "text"]
theorem sc_rest_of : FnScope N_rest_of ["book", "text"] (defScope s_rest_of) := ⟨rfl, rfl, rfl, by decide +kernel, rfl, by decide +kernel, by decide +kernel⟩
abbrev s_check_settled : Stmt := topS 37
abbrev N_check_settled : List Str := ["book"]
theorem sc_check_settled : FnScope N_check_settled ["book"] (defScope s_check_settled) := ⟨rfl, rfl, rfl, by decide +kernel, rfl, by decide +kernel, by decide +kernel⟩
abbrev s__law_source : Stmt := topS 44
abbrev N__law_source : List Str := ["script", "place", "cell", "seed", "one", "number"]
theorem sc__law_source : FnScope N__law_source ["script", "place"] (defScope s__law_source) := ⟨rfl, rfl, rfl, by decide +kernel, rfl, by decide +kernel, by decide +kernel⟩
abbrev s__law_pick : Stmt := topS 45
abbrev N__law_pick : List Str := ["source", "many", "digit", "mixed"]
theorem sc__law_pick : FnScope N__law_pick ["source", "many"] (defScope s__law_pick) := ⟨rfl, rfl, rfl, by decide +kernel, rfl, by decide +kernel, by decide +kernel⟩
abbrev s__law_signs : Stmt := topS 46
abbrev N__law_signs : List Str := ["source", "menu"]
theorem sc__law_signs : FnScope N__law_signs ["source"] (defScope s__law_signs) := ⟨rfl, rfl, rfl, by decide +kernel, rfl, by decide +kernel, by decide +kernel⟩
abbrev s__law_text : Stmt := topS 47
abbrev N__law_text : List Str := ["source", "signs", "most", "told", "k"]
theorem sc__law_text : FnScope N__law_text ["source", "signs", "most"] (defScope s__law_text) := ⟨rfl, rfl, rfl, by decide +kernel, rfl, by decide +kernel, by decide +kernel⟩
abbrev s__law_key : Stmt := topS 48
abbrev N__law_key : List Str := ["text"]
theorem sc__law_key : FnScope N__law_key ["text"] (defScope s__law_key) := ⟨rfl, rfl, rfl, by decide +kernel, rfl, by decide +kernel, by decide +kernel⟩
abbrev s__law_left : Stmt := topS 49
abbrev N__law_left : List Str := ["rules", "text", "pile", "sign", "fitting", "rule"]
theorem sc__law_left : FnScope N__law_left ["rules", "text"] (defScope s__law_left) := ⟨rfl, rfl, rfl, by decide +kernel, rfl, by decide +kernel, by decide +kernel⟩
abbrev s__law_quarrel : Stmt := topS 50
abbrev N__law_quarrel : List Str := ["rules", "told", "one", "put", "other", "laid", "place", "shared", "text", "second"]
theorem sc__law_quarrel : FnScope N__law_quarrel ["rules"] (defScope s__law_quarrel) := ⟨rfl, rfl, rfl, by decide +kernel, rfl, by decide +kernel, by decide +kernel⟩
abbrev s__law_rule : Stmt := topS 51
abbrev N__law_rule : List Str := ["source", "signs", "longest", "size", "left", "k"]
theorem sc__law_rule : FnScope N__law_rule ["source", "signs", "longest"] (defScope s__law_rule) := ⟨rfl, rfl, rfl, by decide +kernel, rfl, by decide +kernel, by decide +kernel⟩
abbrev s__law_grown : Stmt := topS 52
abbrev N__law_grown : List Str := ["source", "signs", "most", "longest", "rules", "k", "turn", "rule"]
theorem sc__law_grown : FnScope N__law_grown ["source", "signs", "most", "longest"] (defScope s__law_grown) := ⟨rfl, rfl, rfl, by decide +kernel, rfl, by decide +kernel, by decide +kernel⟩
abbrev s__law_table_rules : Stmt := topS 53
abbrev N__law_table_rules : List Str := ["source", "signs", "kind", "many", "rules", "i", "j", "turned", "at"]
theorem sc__law_table_rules : FnScope N__law_table_rules ["source", "signs"] (defScope s__law_table_rules) := ⟨rfl, rfl, rfl, by decide +kernel, rfl, by decide +kernel, by decide +kernel⟩
abbrev s__law_book : Stmt := topS 54
abbrev N__law_book : List Str := ["source", "signs", "most", "way"]
theorem sc__law_book : FnScope N__law_book ["source", "signs", "most"] (defScope s__law_book) := ⟨rfl, rfl, rfl, by decide +kernel, rfl, by decide +kernel, by decide +kernel⟩
abbrev s__law_known : Stmt := topS 55
abbrev N__law_known : List Str := ["source", "a", "b", "menu", "picked"]
theorem sc__law_known : FnScope N__law_known ["source", "a", "b"] (defScope s__law_known) := ⟨rfl, rfl, rfl, by decide +kernel, rfl, by decide +kernel, by decide +kernel⟩
abbrev s__law_some : Stmt := topS 57
abbrev N__law_some : List Str := ["draws", "rules", "text", "turn", "near", "place", "left", "right"]
theorem sc__law_some : FnScope N__law_some ["draws", "rules", "text"] (defScope s__law_some) := ⟨rfl, rfl, rfl, by decide +kernel, rfl, by decide +kernel, by decide +kernel⟩
abbrev s_law : Stmt := topS 59
abbrev N_law : List Str := ["script", "source", "signs", "rules", "draws", "others", "other_rules", "images", "way", "end", "one", "other", "sending", "due", "k", "sides", "told", "turn", "text", "image", "at", "odd", "long", "same", "wider", "bare", "lost", "raised", "sign", "side"]
theorem sc_law : FnScope N_law ["script"] (defScope s_law) := ⟨rfl, rfl, rfl, by decide +kernel, rfl, by decide +kernel, by decide +kernel⟩
abbrev s_Booku_equ : Stmt := inClass (topS 35) 5
abbrev N_Booku_equ : List Str := ["self", "other"]
theorem sc_Booku_equ : FnScope N_Booku_equ ["self", "other"] (defScope s_Booku_equ) := ⟨rfl, rfl, rfl, by decide +kernel, rfl, by decide +kernel, by decide +kernel⟩
abbrev s_Keepsu_initu : Stmt := inClass (topS 39) 0
abbrev N_Keepsu_initu : List Str := ["self", "number"]
theorem sc_Keepsu_initu : FnScope N_Keepsu_initu ["self", "number"] (defScope s_Keepsu_initu) := ⟨rfl, rfl, rfl, by decide +kernel, rfl, by decide +kernel, by decide +kernel⟩
abbrev s_Keepsu_boolu : Stmt := inClass (topS 39) 1
abbrev N_Keepsu_boolu : List Str := ["self"]
theorem sc_Keepsu_boolu : FnScope N_Keepsu_boolu ["self"] (defScope s_Keepsu_boolu) := ⟨rfl, rfl, rfl, by decide +kernel, rfl, by decide +kernel, by decide +kernel⟩
abbrev s_checked_images : Stmt := topS 40
abbrev N_checked_images : List Str := ["one", "other", "images", "k"]
theorem sc_checked_images : FnScope N_checked_images ["one", "other", "images"] (defScope s_checked_images) := ⟨rfl, rfl, rfl, by decide +kernel, rfl, by decide +kernel, by decide +kernel⟩
abbrev s_image_end : Stmt := topS 41
abbrev N_image_end : List Str := ["sending", "text", "end", "sign"]
theorem sc_image_end : FnScope N_image_end ["sending", "text"] (defScope s_image_end) := ⟨rfl, rfl, rfl, by decide +kernel, rfl, by decide +kernel, by decide +kernel⟩
abbrev s_Sendingu_initu : Stmt := inClass (topS 42) 0
abbrev N_Sendingu_initu : List Str := ["self", "one", "other", "images"]
theorem sc_Sendingu_initu : FnScope N_Sendingu_initu ["self", "one", "other", "images"] (defScope s_Sendingu_initu) := ⟨rfl, rfl, rfl, by decide +kernel, rfl, by decide +kernel, by decide +kernel⟩
abbrev s_Sendingu_equ : Stmt := inClass (topS 42) 1
abbrev N_Sendingu_equ : List Str := ["self", "other"]
theorem sc_Sendingu_equ : FnScope N_Sendingu_equ ["self", "other"] (defScope s_Sendingu_equ) := ⟨rfl, rfl, rfl, by decide +kernel, rfl, by decide +kernel, by decide +kernel⟩
abbrev s_Sendingu_callu : Stmt := inClass (topS 42) 2
abbrev N_Sendingu_callu : List Str := ["self", "text"]
theorem sc_Sendingu_callu : FnScope N_Sendingu_callu ["self", "text"] (defScope s_Sendingu_callu) := ⟨rfl, rfl, rfl, by decide +kernel, rfl, by decide +kernel, by decide +kernel⟩
abbrev s_Sending_keeps : Stmt := inClass (topS 42) 4
abbrev N_Sending_keeps : List Str := ["self", "k", "left", "right"]
theorem sc_Sending_keeps : FnScope N_Sending_keeps ["self"] (defScope s_Sending_keeps) := ⟨rfl, rfl, rfl, by decide +kernel, rfl, by decide +kernel, by decide +kernel⟩
abbrev s__law_image : Stmt := topS 56
abbrev N__law_image : List Str := ["rules", "images", "signs", "text", "end", "sign"]
theorem sc__law_image : FnScope N__law_image ["rules", "images", "signs", "text"] (defScope s__law_image) := ⟨rfl, rfl, rfl, by decide +kernel, rfl, by decide +kernel, by decide +kernel⟩
abbrev s__law_refused : Stmt := topS 58
abbrev N__law_refused : List Str := ["one", "other", "images", "raised"]
theorem sc__law_refused : FnScope N__law_refused ["one", "other", "images"] (defScope s__law_refused) := ⟨rfl, rfl, rfl, by decide +kernel, rfl, by decide +kernel, by decide +kernel⟩
abbrev s_WrongItemu_initu : Stmt := inClass (topS 4) 0
abbrev N_WrongItemu_initu : List Str := ["self", "place", "__class__"]
theorem sc_WrongItemu_initu : NdefX.NScope N_WrongItemu_initu ["self", "place"] ["__class__"] (defScope s_WrongItemu_initu) := NdefX.nscope_by (by decide +kernel)
abbrev s_WrongThingu_initu : Stmt := inClass (topS 3) 0
abbrev N_WrongThingu_initu : List Str := ["self", "thing", "__class__"]
theorem sc_WrongThingu_initu : NdefX.NScope N_WrongThingu_initu ["self", "thing"] ["__class__"] (defScope s_WrongThingu_initu) := NdefX.nscope_by (by decide +kernel)
structure Ad where
  C_Book : Addr
  C_Keeps : Addr
  C_Sending : Addr
  f_is_listed : Addr
  d_is_listed : FuncData
  f_is_signs : Addr
  d_is_signs : FuncData
  f_check_signs : Addr
  d_check_signs : FuncData
  f_is_text : Addr
  d_is_text : FuncData
  f_check_text : Addr
  d_check_text : FuncData
  f_text_key : Addr
  d_text_key : FuncData
  f_first_rules : Addr
  d_first_rules : FuncData
  f_longest_left : Addr
  d_longest_left : FuncData
  f_used_at_end : Addr
  d_used_at_end : FuncData
  f_left_over : Addr
  d_left_over : FuncData
  f_overlap_rows : Addr
  d_overlap_rows : FuncData
  f_both_results : Addr
  d_both_results : FuncData
  f_quarrel_of : Addr
  d_quarrel_of : FuncData
  f_end_moves : Addr
  d_end_moves : FuncData
  f_kept_tail : Addr
  d_kept_tail : FuncData
  f_is_rule : Addr
  d_is_rule : FuncData
  f_checked_rules : Addr
  d_checked_rules : FuncData
  f_Booku_initu : Addr
  d_Booku_initu : FuncData
  f_Booku_callu : Addr
  d_Booku_callu : FuncData
  f_rest_of : Addr
  d_rest_of : FuncData
  f_check_settled : Addr
  d_check_settled : FuncData
  f__law_source : Addr
  d__law_source : FuncData
  f__law_pick : Addr
  d__law_pick : FuncData
  f__law_signs : Addr
  d__law_signs : FuncData
  f__law_text : Addr
  d__law_text : FuncData
  f__law_key : Addr
  d__law_key : FuncData
  f__law_left : Addr
  d__law_left : FuncData
  f__law_quarrel : Addr
  d__law_quarrel : FuncData
  f__law_rule : Addr
  d__law_rule : FuncData
  f__law_grown : Addr
  d__law_grown : FuncData
  f__law_table_rules : Addr
  d__law_table_rules : FuncData
  f__law_book : Addr
  d__law_book : FuncData
  f__law_known : Addr
  d__law_known : FuncData
  f__law_some : Addr
  d__law_some : FuncData
  f_law : Addr
  d_law : FuncData
  f_Booku_equ : Addr
  d_Booku_equ : FuncData
  f_Keepsu_initu : Addr
  d_Keepsu_initu : FuncData
  f_Keepsu_boolu : Addr
  d_Keepsu_boolu : FuncData
  f_checked_images : Addr
  d_checked_images : FuncData
  f_image_end : Addr
  d_image_end : FuncData
  f_Sendingu_initu : Addr
  d_Sendingu_initu : FuncData
  f_Sendingu_equ : Addr
  d_Sendingu_equ : FuncData
  f_Sendingu_callu : Addr
  d_Sendingu_callu : FuncData
  f_Sending_keeps : Addr
  d_Sending_keeps : FuncData
  f__law_image : Addr
  d__law_image : FuncData
  f__law_refused : Addr
  d__law_refused : FuncData
  t_LETTERS : Tok
  t_LONGEST_TEXT : Tok
  t_MOST_RULES : Tok
  t_LONGEST_LEFT : Tok
  C_BadImage : Addr
  C_BadText : Addr
  C_WrongItem : Addr
  C_WrongThing : Addr
  f_WrongItemu_initu : Addr
  d_WrongItemu_initu : FuncData
  cc_WrongItemu_initu : Addr
  cda_WrongItemu_initu : Addr
  f_WrongThingu_initu : Addr
  d_WrongThingu_initu : FuncData
  cc_WrongThingu_initu : Addr
  cda_WrongThingu_initu : Addr
structure Tx (P : Program) (K : PySem.W.Frag) (mg : Str → Option Value) (a : Ad) : Prop where
  n_abs : mg "abs" = none
  n_any : mg "any" = none
  n_bool : mg "bool" = none
  n_int : mg "int" = none
  n_isinstance : mg "isinstance" = none
  n_len : mg "len" = none
  n_list : mg "list" = none
  n_max : mg "max" = none
  n_min : mg "min" = none
  n_range : mg "range" = none
  n_repr : mg "repr" = none
  n_str : mg "str" = none
  n_tuple : mg "tuple" = none
  c_LETTERS : mg "LETTERS" = some (Value.str "abcdefghijklmnopqrstuvwxyz" a.t_LETTERS)
  c_LONGEST_TEXT : mg "LONGEST_TEXT" = some (Value.int 200 a.t_LONGEST_TEXT)
  c_MOST_RULES : mg "MOST_RULES" = some (Value.int 64 a.t_MOST_RULES)
  c_LONGEST_LEFT : mg "LONGEST_LEFT" = some (Value.int 4 a.t_LONGEST_LEFT)
  g_is_listed : mg "is_listed" = some (.ref a.f_is_listed)
  k_is_listed : PySem.W.keepIn K (.ref a.f_is_listed) = true
  F_is_listed : Fun K "is_listed" "is_listed" s_is_listed a.f_is_listed a.d_is_listed
  b_is_listed : Binds K a.d_is_listed ["thing"] []
  g_is_signs : mg "is_signs" = some (.ref a.f_is_signs)
  k_is_signs : PySem.W.keepIn K (.ref a.f_is_signs) = true
  F_is_signs : Fun K "is_signs" "is_signs" s_is_signs a.f_is_signs a.d_is_signs
  b_is_signs : Binds K a.d_is_signs ["thing"] []
  g_check_signs : mg "check_signs" = some (.ref a.f_check_signs)
  k_check_signs : PySem.W.keepIn K (.ref a.f_check_signs) = true
  F_check_signs : Fun K "check_signs" "check_signs" s_check_signs a.f_check_signs a.d_check_signs
  b_check_signs : Binds K a.d_check_signs ["thing"] []
  g_is_text : mg "is_text" = some (.ref a.f_is_text)
  k_is_text : PySem.W.keepIn K (.ref a.f_is_text) = true
  F_is_text : Fun K "is_text" "is_text" s_is_text a.f_is_text a.d_is_text
  b_is_text : Binds K a.d_is_text ["signs", "thing", "low", "high"] []
  g_check_text : mg "check_text" = some (.ref a.f_check_text)
  k_check_text : PySem.W.keepIn K (.ref a.f_check_text) = true
  F_check_text : Fun K "check_text" "check_text" s_check_text a.f_check_text a.d_check_text
  b_check_text : Binds K a.d_check_text ["signs", "thing"] []
  g_text_key : mg "text_key" = some (.ref a.f_text_key)
  k_text_key : PySem.W.keepIn K (.ref a.f_text_key) = true
  F_text_key : Fun K "text_key" "text_key" s_text_key a.f_text_key a.d_text_key
  b_text_key : Binds K a.d_text_key ["text"] []
  g_first_rules : mg "first_rules" = some (.ref a.f_first_rules)
  k_first_rules : PySem.W.keepIn K (.ref a.f_first_rules) = true
  F_first_rules : Fun K "first_rules" "first_rules" s_first_rules a.f_first_rules a.d_first_rules
  b_first_rules : Binds K a.d_first_rules ["rules"] []
  g_longest_left : mg "longest_left" = some (.ref a.f_longest_left)
  k_longest_left : PySem.W.keepIn K (.ref a.f_longest_left) = true
  F_longest_left : Fun K "longest_left" "longest_left" s_longest_left a.f_longest_left a.d_longest_left
  b_longest_left : Binds K a.d_longest_left ["rules"] []
  g_used_at_end : mg "used_at_end" = some (.ref a.f_used_at_end)
  k_used_at_end : PySem.W.keepIn K (.ref a.f_used_at_end) = true
  F_used_at_end : Fun K "used_at_end" "used_at_end" s_used_at_end a.f_used_at_end a.d_used_at_end
  b_used_at_end : Binds K a.d_used_at_end ["lefts", "longest", "pile"] []
  g_left_over : mg "left_over" = some (.ref a.f_left_over)
  k_left_over : PySem.W.keepIn K (.ref a.f_left_over) = true
  F_left_over : Fun K "left_over" "left_over" s_left_over a.f_left_over a.d_left_over
  b_left_over : Binds K a.d_left_over ["lefts", "longest", "text"] []
  g_overlap_rows : mg "overlap_rows" = some (.ref a.f_overlap_rows)
  k_overlap_rows : PySem.W.keepIn K (.ref a.f_overlap_rows) = true
  F_overlap_rows : Fun K "overlap_rows" "overlap_rows" s_overlap_rows a.f_overlap_rows a.d_overlap_rows
  b_overlap_rows : Binds K a.d_overlap_rows ["rules"] []
  g_both_results : mg "both_results" = some (.ref a.f_both_results)
  k_both_results : PySem.W.keepIn K (.ref a.f_both_results) = true
  F_both_results : Fun K "both_results" "both_results" s_both_results a.f_both_results a.d_both_results
  b_both_results : Binds K a.d_both_results ["rules", "overlap"] []
  g_quarrel_of : mg "quarrel_of" = some (.ref a.f_quarrel_of)
  k_quarrel_of : PySem.W.keepIn K (.ref a.f_quarrel_of) = true
  F_quarrel_of : Fun K "quarrel_of" "quarrel_of" s_quarrel_of a.f_quarrel_of a.d_quarrel_of
  b_quarrel_of : Binds K a.d_quarrel_of ["rules", "lefts", "longest"] []
  g_end_moves : mg "end_moves" = some (.ref a.f_end_moves)
  k_end_moves : PySem.W.keepIn K (.ref a.f_end_moves) = true
  F_end_moves : Fun K "end_moves" "end_moves" s_end_moves a.f_end_moves a.d_end_moves
  b_end_moves : Binds K a.d_end_moves ["signs", "rules"] []
  g_kept_tail : mg "kept_tail" = some (.ref a.f_kept_tail)
  k_kept_tail : PySem.W.keepIn K (.ref a.f_kept_tail) = true
  F_kept_tail : Fun K "kept_tail" "kept_tail" s_kept_tail a.f_kept_tail a.d_kept_tail
  b_kept_tail : Binds K a.d_kept_tail ["lefts", "longest", "text"] []
  g_is_rule : mg "is_rule" = some (.ref a.f_is_rule)
  k_is_rule : PySem.W.keepIn K (.ref a.f_is_rule) = true
  F_is_rule : Fun K "is_rule" "is_rule" s_is_rule a.f_is_rule a.d_is_rule
  b_is_rule : Binds K a.d_is_rule ["signs", "thing"] []
  g_checked_rules : mg "checked_rules" = some (.ref a.f_checked_rules)
  k_checked_rules : PySem.W.keepIn K (.ref a.f_checked_rules) = true
  F_checked_rules : Fun K "checked_rules" "checked_rules" s_checked_rules a.f_checked_rules a.d_checked_rules
  b_checked_rules : Binds K a.d_checked_rules ["signs", "thing"] []
  k_Booku_initu : PySem.W.keepIn K (.ref a.f_Booku_initu) = true
  F_Booku_initu : Fun K "__init__" "Book.__init__" s_Booku_initu a.f_Booku_initu a.d_Booku_initu
  b_Booku_initu : Binds K a.d_Booku_initu ["self", "signs", "rules"] []
  k_Booku_callu : PySem.W.keepIn K (.ref a.f_Booku_callu) = true
  F_Booku_callu : Fun K "__call__" "Book.__call__" s_Booku_callu a.f_Booku_callu a.d_Booku_callu
  b_Booku_callu : Binds K a.d_Booku_callu ["self", "text"] []
  g_rest_of : mg "rest_of" = some (.ref a.f_rest_of)
  k_rest_of : PySem.W.keepIn K (.ref a.f_rest_of) = true
  F_rest_of : Fun K "rest_of" "rest_of" s_rest_of a.f_rest_of a.d_rest_of
  b_rest_of : Binds K a.d_rest_of ["book", "text"] []
  g_check_settled : mg "check_settled" = some (.ref a.f_check_settled)
  k_check_settled : PySem.W.keepIn K (.ref a.f_check_settled) = true
  F_check_settled : Fun K "check_settled" "check_settled" s_check_settled a.f_check_settled a.d_check_settled
  b_check_settled : Binds K a.d_check_settled ["book"] []
  g__law_source : mg "_law_source" = some (.ref a.f__law_source)
  k__law_source : PySem.W.keepIn K (.ref a.f__law_source) = true
  F__law_source : Fun K "_law_source" "_law_source" s__law_source a.f__law_source a.d__law_source
  b__law_source : Binds K a.d__law_source ["script", "place"] []
  g__law_pick : mg "_law_pick" = some (.ref a.f__law_pick)
  k__law_pick : PySem.W.keepIn K (.ref a.f__law_pick) = true
  F__law_pick : Fun K "_law_pick" "_law_pick" s__law_pick a.f__law_pick a.d__law_pick
  b__law_pick : Binds K a.d__law_pick ["source", "many"] []
  g__law_signs : mg "_law_signs" = some (.ref a.f__law_signs)
  k__law_signs : PySem.W.keepIn K (.ref a.f__law_signs) = true
  F__law_signs : Fun K "_law_signs" "_law_signs" s__law_signs a.f__law_signs a.d__law_signs
  b__law_signs : Binds K a.d__law_signs ["source"] []
  g__law_text : mg "_law_text" = some (.ref a.f__law_text)
  k__law_text : PySem.W.keepIn K (.ref a.f__law_text) = true
  F__law_text : Fun K "_law_text" "_law_text" s__law_text a.f__law_text a.d__law_text
  b__law_text : Binds K a.d__law_text ["source", "signs", "most"] []
  g__law_key : mg "_law_key" = some (.ref a.f__law_key)
  k__law_key : PySem.W.keepIn K (.ref a.f__law_key) = true
  F__law_key : Fun K "_law_key" "_law_key" s__law_key a.f__law_key a.d__law_key
  b__law_key : Binds K a.d__law_key ["text"] []
  g__law_left : mg "_law_left" = some (.ref a.f__law_left)
  k__law_left : PySem.W.keepIn K (.ref a.f__law_left) = true
  F__law_left : Fun K "_law_left" "_law_left" s__law_left a.f__law_left a.d__law_left
  b__law_left : Binds K a.d__law_left ["rules", "text"] []
  g__law_quarrel : mg "_law_quarrel" = some (.ref a.f__law_quarrel)
  k__law_quarrel : PySem.W.keepIn K (.ref a.f__law_quarrel) = true
  F__law_quarrel : Fun K "_law_quarrel" "_law_quarrel" s__law_quarrel a.f__law_quarrel a.d__law_quarrel
  b__law_quarrel : Binds K a.d__law_quarrel ["rules"] []
  g__law_rule : mg "_law_rule" = some (.ref a.f__law_rule)
  k__law_rule : PySem.W.keepIn K (.ref a.f__law_rule) = true
  F__law_rule : Fun K "_law_rule" "_law_rule" s__law_rule a.f__law_rule a.d__law_rule
  b__law_rule : Binds K a.d__law_rule ["source", "signs", "longest"] []
  g__law_grown : mg "_law_grown" = some (.ref a.f__law_grown)
  k__law_grown : PySem.W.keepIn K (.ref a.f__law_grown) = true
  F__law_grown : Fun K "_law_grown" "_law_grown" s__law_grown a.f__law_grown a.d__law_grown
  b__law_grown : Binds K a.d__law_grown ["source", "signs", "most", "longest"] []
  g__law_table_rules : mg "_law_table_rules" = some (.ref a.f__law_table_rules)
  k__law_table_rules : PySem.W.keepIn K (.ref a.f__law_table_rules) = true
  F__law_table_rules : Fun K "_law_table_rules" "_law_table_rules" s__law_table_rules a.f__law_table_rules a.d__law_table_rules
  b__law_table_rules : Binds K a.d__law_table_rules ["source", "signs"] []
  g__law_book : mg "_law_book" = some (.ref a.f__law_book)
  k__law_book : PySem.W.keepIn K (.ref a.f__law_book) = true
  F__law_book : Fun K "_law_book" "_law_book" s__law_book a.f__law_book a.d__law_book
  b__law_book : Binds K a.d__law_book ["source", "signs", "most"] []
  g__law_known : mg "_law_known" = some (.ref a.f__law_known)
  k__law_known : PySem.W.keepIn K (.ref a.f__law_known) = true
  F__law_known : Fun K "_law_known" "_law_known" s__law_known a.f__law_known a.d__law_known
  b__law_known : Binds K a.d__law_known ["source", "a", "b"] []
  g__law_some : mg "_law_some" = some (.ref a.f__law_some)
  k__law_some : PySem.W.keepIn K (.ref a.f__law_some) = true
  F__law_some : Fun K "_law_some" "_law_some" s__law_some a.f__law_some a.d__law_some
  b__law_some : Binds K a.d__law_some ["draws", "rules", "text"] []
  g_law : mg "law" = some (.ref a.f_law)
  k_law : PySem.W.keepIn K (.ref a.f_law) = true
  F_law : Fun K "law" "law" s_law a.f_law a.d_law
  b_law : Binds K a.d_law ["script"] []
  k_Booku_equ : PySem.W.keepIn K (.ref a.f_Booku_equ) = true
  F_Booku_equ : Fun K "__eq__" "Book.__eq__" s_Booku_equ a.f_Booku_equ a.d_Booku_equ
  b_Booku_equ : Binds K a.d_Booku_equ ["self", "other"] []
  k_Keepsu_initu : PySem.W.keepIn K (.ref a.f_Keepsu_initu) = true
  F_Keepsu_initu : Fun K "__init__" "Keeps.__init__" s_Keepsu_initu a.f_Keepsu_initu a.d_Keepsu_initu
  b_Keepsu_initu : Binds K a.d_Keepsu_initu ["self", "number"] []
  k_Keepsu_boolu : PySem.W.keepIn K (.ref a.f_Keepsu_boolu) = true
  F_Keepsu_boolu : Fun K "__bool__" "Keeps.__bool__" s_Keepsu_boolu a.f_Keepsu_boolu a.d_Keepsu_boolu
  b_Keepsu_boolu : Binds K a.d_Keepsu_boolu ["self"] []
  g_checked_images : mg "checked_images" = some (.ref a.f_checked_images)
  k_checked_images : PySem.W.keepIn K (.ref a.f_checked_images) = true
  F_checked_images : Fun K "checked_images" "checked_images" s_checked_images a.f_checked_images a.d_checked_images
  b_checked_images : Binds K a.d_checked_images ["one", "other", "images"] []
  g_image_end : mg "image_end" = some (.ref a.f_image_end)
  k_image_end : PySem.W.keepIn K (.ref a.f_image_end) = true
  F_image_end : Fun K "image_end" "image_end" s_image_end a.f_image_end a.d_image_end
  b_image_end : Binds K a.d_image_end ["sending", "text"] []
  k_Sendingu_initu : PySem.W.keepIn K (.ref a.f_Sendingu_initu) = true
  F_Sendingu_initu : Fun K "__init__" "Sending.__init__" s_Sendingu_initu a.f_Sendingu_initu a.d_Sendingu_initu
  b_Sendingu_initu : Binds K a.d_Sendingu_initu ["self", "one", "other", "images"] []
  k_Sendingu_equ : PySem.W.keepIn K (.ref a.f_Sendingu_equ) = true
  F_Sendingu_equ : Fun K "__eq__" "Sending.__eq__" s_Sendingu_equ a.f_Sendingu_equ a.d_Sendingu_equ
  b_Sendingu_equ : Binds K a.d_Sendingu_equ ["self", "other"] []
  k_Sendingu_callu : PySem.W.keepIn K (.ref a.f_Sendingu_callu) = true
  F_Sendingu_callu : Fun K "__call__" "Sending.__call__" s_Sendingu_callu a.f_Sendingu_callu a.d_Sendingu_callu
  b_Sendingu_callu : Binds K a.d_Sendingu_callu ["self", "text"] []
  k_Sending_keeps : PySem.W.keepIn K (.ref a.f_Sending_keeps) = true
  F_Sending_keeps : Fun K "keeps" "Sending.keeps" s_Sending_keeps a.f_Sending_keeps a.d_Sending_keeps
  b_Sending_keeps : Binds K a.d_Sending_keeps ["self"] []
  g__law_image : mg "_law_image" = some (.ref a.f__law_image)
  k__law_image : PySem.W.keepIn K (.ref a.f__law_image) = true
  F__law_image : Fun K "_law_image" "_law_image" s__law_image a.f__law_image a.d__law_image
  b__law_image : Binds K a.d__law_image ["rules", "images", "signs", "text"] []
  g__law_refused : mg "_law_refused" = some (.ref a.f__law_refused)
  k__law_refused : PySem.W.keepIn K (.ref a.f__law_refused) = true
  F__law_refused : Fun K "_law_refused" "_law_refused" s__law_refused a.f__law_refused a.d__law_refused
  b__law_refused : Binds K a.d__law_refused ["one", "other", "images"] []
  g_Book : mg "Book" = some (.ref a.C_Book)
  l_Book : Cls K a.C_Book
  m_Book : Mk K a.C_Book a.f_Booku_initu
  o_Book : StX.CallO K a.C_Book a.f_Booku_callu
  x_Book_signs : NoAttr K a.C_Book "signs"
  x_Book_rules : NoAttr K a.C_Book "rules"
  x_Book__lefts : NoAttr K a.C_Book "_lefts"
  x_Book__longest : NoAttr K a.C_Book "_longest"
  x_Book__quarrel : NoAttr K a.C_Book "_quarrel"
  x_Book__moves : NoAttr K a.C_Book "_moves"
  g_Keeps : mg "Keeps" = some (.ref a.C_Keeps)
  l_Keeps : Cls K a.C_Keeps
  m_Keeps : Mk K a.C_Keeps a.f_Keepsu_initu
  x_Keeps_holds : NoAttr K a.C_Keeps "holds"
  x_Keeps_number : NoAttr K a.C_Keeps "number"
  g_Sending : mg "Sending" = some (.ref a.C_Sending)
  l_Sending : Cls K a.C_Sending
  m_Sending : Mk K a.C_Sending a.f_Sendingu_initu
  o_Sending : StX.CallO K a.C_Sending a.f_Sendingu_callu
  x_Sending_one : NoAttr K a.C_Sending "one"
  x_Sending_other : NoAttr K a.C_Sending "other"
  x_Sending_images : NoAttr K a.C_Sending "images"
  p_Booku_equ : Spm K a.C_Book "__eq__" a.f_Booku_equ
  p_Keepsu_boolu : Spm K a.C_Keeps "__bool__" a.f_Keepsu_boolu
  p_Sendingu_equ : Spm K a.C_Sending "__eq__" a.f_Sendingu_equ
  h_Sending_keeps : Meth K a.C_Sending "keeps" a.f_Sending_keeps
  nf_Sending : PySem.W.notFirst K a.C_Sending (.type "tuple") = true
  ic_Book : IsC K a.C_Book
  it_Book : PySem.W.kitOne K (.type "tuple") (.ref a.C_Book) = some false
  ic_Sending : IsC K a.C_Sending
  it_Sending : PySem.W.kitOne K (.type "tuple") (.ref a.C_Sending) = some false
  it_BadImage_WrongItem : PySem.W.kitOne K (.ref a.C_BadImage) (.ref a.C_WrongItem) = some true
  g_BadImage : mg "BadImage" = some (.ref a.C_BadImage)
  g_BadText : mg "BadText" = some (.ref a.C_BadText)
  g_WrongItem : mg "WrongItem" = some (.ref a.C_WrongItem)
  g_WrongThing : mg "WrongThing" = some (.ref a.C_WrongThing)
  oe_BadImage : OexC K a.C_BadImage
  xf_BadImage : XfC K a.C_BadImage
  xn_BadImage_place : PySem.W.findIn K (.ref a.C_BadImage) "place" = some none
  oi_BadImage : PySem.W.findIn K (.ref a.C_BadImage) "__init__" = some (some (.ref a.f_WrongItemu_initu))
  sx_BadImage : SupX K a.C_BadImage a.C_WrongItem
  xm_BadImage_BadImage : PySem.W.exmOne K (.ref a.C_BadImage) (.ref a.C_BadImage) = some true
  xm_BadImage_BadText : PySem.W.exmOne K (.ref a.C_BadImage) (.ref a.C_BadText) = some false
  oe_BadText : OexC K a.C_BadText
  xf_BadText : XfC K a.C_BadText
  xn_BadText_thing : PySem.W.findIn K (.ref a.C_BadText) "thing" = some none
  oi_BadText : PySem.W.findIn K (.ref a.C_BadText) "__init__" = some (some (.ref a.f_WrongThingu_initu))
  sx_BadText : SupX K a.C_BadText a.C_WrongThing
  xm_BadText_BadImage : PySem.W.exmOne K (.ref a.C_BadText) (.ref a.C_BadImage) = some false
  xm_BadText_BadText : PySem.W.exmOne K (.ref a.C_BadText) (.ref a.C_BadText) = some true
  F_WrongItemu_initu : FunS K "__init__" "WrongItem.__init__" s_WrongItemu_initu a.f_WrongItemu_initu a.cc_WrongItemu_initu a.cda_WrongItemu_initu a.d_WrongItemu_initu
  b_WrongItemu_initu : Binds K a.d_WrongItemu_initu ["self", "place"] []
  ot_WrongItemu_initu : PySem.W.typeIn K (.ref a.f_WrongItemu_initu) = some (.type "function")
  su_WrongItemu_initu : SupC P K mg a.C_WrongItem a.cc_WrongItemu_initu a.cda_WrongItemu_initu
  F_WrongThingu_initu : FunS K "__init__" "WrongThing.__init__" s_WrongThingu_initu a.f_WrongThingu_initu a.cc_WrongThingu_initu a.cda_WrongThingu_initu a.d_WrongThingu_initu
  b_WrongThingu_initu : Binds K a.d_WrongThingu_initu ["self", "thing"] []
  ot_WrongThingu_initu : PySem.W.typeIn K (.ref a.f_WrongThingu_initu) = some (.type "function")
  su_WrongThingu_initu : SupC P K mg a.C_WrongThing a.cc_WrongThingu_initu a.cda_WrongThingu_initu
theorem tx_mk {P : Program} {K : PySem.W.Frag} {h : Heap} {mg : Str → Option Value} (X : K.In h) (G : h.Ns mainGlobals mg) {C_Book C_Keeps C_Sending f_is_listed f_is_signs f_check_signs f_is_text f_check_text f_text_key f_first_rules f_longest_left f_used_at_end f_left_over f_overlap_rows f_both_results f_quarrel_of f_end_moves f_kept_tail f_is_rule f_checked_rules f_Booku_initu f_Booku_callu f_rest_of f_check_settled f__law_source f__law_pick f__law_signs f__law_text f__law_key f__law_left f__law_quarrel f__law_rule f__law_grown f__law_table_rules f__law_book f__law_known f__law_some f_law f_Booku_equ f_Keepsu_initu f_Keepsu_boolu f_checked_images f_image_end f_Sendingu_initu f_Sendingu_equ f_Sendingu_callu f_Sending_keeps f__law_image f__law_refused C_BadImage C_BadText C_WrongItem C_WrongThing f_WrongItemu_initu cc_WrongItemu_initu cda_WrongItemu_initu f_WrongThingu_initu cc_WrongThingu_initu cda_WrongThingu_initu : Addr}
    {t_LETTERS t_LONGEST_TEXT t_MOST_RULES t_LONGEST_LEFT : Tok}
    {od_is_listed an_is_listed od_is_signs an_is_signs od_check_signs an_check_signs od_is_text an_is_text od_check_text an_check_text od_text_key an_text_key od_first_rules an_first_rules od_longest_left an_longest_left od_used_at_end an_used_at_end od_left_over an_left_over od_overlap_rows an_overlap_rows od_both_results an_both_results od_quarrel_of an_quarrel_of od_end_moves an_end_moves od_kept_tail an_kept_tail od_is_rule an_is_rule od_checked_rules an_checked_rules od_Booku_initu an_Booku_initu od_Booku_callu an_Booku_callu od_rest_of an_rest_of od_check_settled an_check_settled od__law_source an__law_source od__law_pick an__law_pick od__law_signs an__law_signs od__law_text an__law_text od__law_key an__law_key od__law_left an__law_left od__law_quarrel an__law_quarrel od__law_rule an__law_rule od__law_grown an__law_grown od__law_table_rules an__law_table_rules od__law_book an__law_book od__law_known an__law_known od__law_some an__law_some od_law an_law od_Booku_equ an_Booku_equ od_Keepsu_initu an_Keepsu_initu od_Keepsu_boolu an_Keepsu_boolu od_checked_images an_checked_images od_image_end an_image_end od_Sendingu_initu an_Sendingu_initu od_Sendingu_equ an_Sendingu_equ od_Sendingu_callu an_Sendingu_callu od_Sending_keeps an_Sending_keeps od__law_image an__law_image od__law_refused an__law_refused od_WrongItemu_initu an_WrongItemu_initu od_WrongThingu_initu an_WrongThingu_initu : Option Addr} {sl_is_listed sl_is_signs sl_check_signs sl_is_text sl_check_text sl_text_key sl_first_rules sl_longest_left sl_used_at_end sl_left_over sl_overlap_rows sl_both_results sl_quarrel_of sl_end_moves sl_kept_tail sl_is_rule sl_checked_rules sl_Booku_initu sl_Booku_callu sl_rest_of sl_check_settled sl__law_source sl__law_pick sl__law_signs sl__law_text sl__law_key sl__law_left sl__law_quarrel sl__law_rule sl__law_grown sl__law_table_rules sl__law_book sl__law_known sl__law_some sl_law sl_Booku_equ sl_Keepsu_initu sl_Keepsu_boolu sl_checked_images sl_image_end sl_Sendingu_initu sl_Sendingu_equ sl_Sendingu_callu sl_Sending_keeps sl__law_image sl__law_refused sl_WrongItemu_initu sl_WrongThingu_initu : Array (Option Value)} {oc_is_listed kV_is_listed dc_is_listed pm_is_listed cd_is_listed ct_is_listed oc_is_signs kV_is_signs dc_is_signs pm_is_signs cd_is_signs ct_is_signs oc_check_signs kV_check_signs dc_check_signs pm_check_signs cd_check_signs ct_check_signs oc_is_text kV_is_text dc_is_text pm_is_text cd_is_text ct_is_text oc_check_text kV_check_text dc_check_text pm_check_text cd_check_text ct_check_text oc_text_key kV_text_key dc_text_key pm_text_key cd_text_key ct_text_key oc_first_rules kV_first_rules dc_first_rules pm_first_rules cd_first_rules ct_first_rules oc_longest_left kV_longest_left dc_longest_left pm_longest_left cd_longest_left ct_longest_left oc_used_at_end kV_used_at_end dc_used_at_end pm_used_at_end cd_used_at_end ct_used_at_end oc_left_over kV_left_over dc_left_over pm_left_over cd_left_over ct_left_over oc_overlap_rows kV_overlap_rows dc_overlap_rows pm_overlap_rows cd_overlap_rows ct_overlap_rows oc_both_results kV_both_results dc_both_results pm_both_results cd_both_results ct_both_results oc_quarrel_of kV_quarrel_of dc_quarrel_of pm_quarrel_of cd_quarrel_of ct_quarrel_of oc_end_moves kV_end_moves dc_end_moves pm_end_moves cd_end_moves ct_end_moves oc_kept_tail kV_kept_tail dc_kept_tail pm_kept_tail cd_kept_tail ct_kept_tail oc_is_rule kV_is_rule dc_is_rule pm_is_rule cd_is_rule ct_is_rule oc_checked_rules kV_checked_rules dc_checked_rules pm_checked_rules cd_checked_rules ct_checked_rules oc_Booku_initu kV_Booku_initu dc_Booku_initu pm_Booku_initu cd_Booku_initu ct_Booku_initu oc_Booku_callu kV_Booku_callu dc_Booku_callu pm_Booku_callu cd_Booku_callu ct_Booku_callu oc_rest_of kV_rest_of dc_rest_of pm_rest_of cd_rest_of ct_rest_of oc_check_settled kV_check_settled dc_check_settled pm_check_settled cd_check_settled ct_check_settled oc__law_source kV__law_source dc__law_source pm__law_source cd__law_source ct__law_source oc__law_pick kV__law_pick dc__law_pick pm__law_pick cd__law_pick ct__law_pick oc__law_signs kV__law_signs dc__law_signs pm__law_signs cd__law_signs ct__law_signs oc__law_text kV__law_text dc__law_text pm__law_text cd__law_text ct__law_text oc__law_key kV__law_key dc__law_key pm__law_key cd__law_key ct__law_key oc__law_left kV__law_left dc__law_left pm__law_left cd__law_left ct__law_left oc__law_quarrel kV__law_quarrel dc__law_quarrel pm__law_quarrel cd__law_quarrel ct__law_quarrel oc__law_rule kV__law_rule dc__law_rule pm__law_rule cd__law_rule ct__law_rule oc__law_grown kV__law_grown dc__law_grown pm__law_grown cd__law_grown ct__law_grown oc__law_table_rules kV__law_table_rules dc__law_table_rules pm__law_table_rules cd__law_table_rules ct__law_table_rules oc__law_book kV__law_book dc__law_book pm__law_book cd__law_book ct__law_book oc__law_known kV__law_known dc__law_known pm__law_known cd__law_known ct__law_known oc__law_some kV__law_some dc__law_some pm__law_some cd__law_some ct__law_some oc_law kV_law dc_law pm_law cd_law ct_law oc_Booku_equ kV_Booku_equ dc_Booku_equ pm_Booku_equ cd_Booku_equ ct_Booku_equ oc_Keepsu_initu kV_Keepsu_initu dc_Keepsu_initu pm_Keepsu_initu cd_Keepsu_initu ct_Keepsu_initu oc_Keepsu_boolu kV_Keepsu_boolu dc_Keepsu_boolu pm_Keepsu_boolu cd_Keepsu_boolu ct_Keepsu_boolu oc_checked_images kV_checked_images dc_checked_images pm_checked_images cd_checked_images ct_checked_images oc_image_end kV_image_end dc_image_end pm_image_end cd_image_end ct_image_end oc_Sendingu_initu kV_Sendingu_initu dc_Sendingu_initu pm_Sendingu_initu cd_Sendingu_initu ct_Sendingu_initu oc_Sendingu_equ kV_Sendingu_equ dc_Sendingu_equ pm_Sendingu_equ cd_Sendingu_equ ct_Sendingu_equ oc_Sendingu_callu kV_Sendingu_callu dc_Sendingu_callu pm_Sendingu_callu cd_Sendingu_callu ct_Sendingu_callu oc_Sending_keeps kV_Sending_keeps dc_Sending_keeps pm_Sending_keeps cd_Sending_keeps ct_Sending_keeps oc__law_image kV__law_image dc__law_image pm__law_image cd__law_image ct__law_image oc__law_refused kV__law_refused dc__law_refused pm__law_refused cd__law_refused ct__law_refused oc_WrongItemu_initu kV_WrongItemu_initu dc_WrongItemu_initu pm_WrongItemu_initu ct_WrongItemu_initu oc_WrongThingu_initu kV_WrongThingu_initu dc_WrongThingu_initu pm_WrongThingu_initu ct_WrongThingu_initu : Value}
    {xnm_BadImage : Str}
    {xq_BadImage : Str}
    {xN_BadImage : Addr}
    {xbs_BadImage : List Value}
    {xbm_BadImage : List Value}
    {xsn_BadImage : List Str}
    {xsub_BadImage : List Value}
    {xab_BadImage : Bool}
    {xcol_BadImage : Option Bool}
    {xdd_BadImage : Option Addr}
    {xk0_BadImage : Option Value}
    {xk1_BadImage : Option Value}
    {xk2_BadImage : Option Value}
    {xk3_BadImage : Option Value}
    {xk5_BadImage : Option Value}
    {xnm_BadText : Str}
    {xq_BadText : Str}
    {xN_BadText : Addr}
    {xbs_BadText : List Value}
    {xbm_BadText : List Value}
    {xsn_BadText : List Str}
    {xsub_BadText : List Value}
    {xab_BadText : Bool}
    {xcol_BadText : Option Bool}
    {xdd_BadText : Option Addr}
    {xk0_BadText : Option Value}
    {xk1_BadText : Option Value}
    {xk2_BadText : Option Value}
    {xk3_BadText : Option Value}
    {xk5_BadText : Option Value}
    {ucl_WrongItemu_initu : Value}
    {udd_WrongItemu_initu : Option Addr}
    {uvs_WrongItemu_initu : Array Value}
    {ucs_WrongItemu_initu : Array (Option Value)}
    {ufl_WrongItemu_initu : Str}
    {utf_WrongItemu_initu : Tok}
    {vcl_WrongItemu_initu : Value}
    {vcd_WrongItemu_initu : Option Addr}
    {vcs_WrongItemu_initu : Array (Option Value)}
    {wcl_WrongItemu_initu : Value}
    {wcd_WrongItemu_initu : Option Addr}
    {wdt_WrongItemu_initu : ClassData}
    {wsl_WrongItemu_initu : Array (Option Value)}
    {ucl_WrongThingu_initu : Value}
    {udd_WrongThingu_initu : Option Addr}
    {uvs_WrongThingu_initu : Array Value}
    {ucs_WrongThingu_initu : Array (Option Value)}
    {ufl_WrongThingu_initu : Str}
    {utf_WrongThingu_initu : Tok}
    {vcl_WrongThingu_initu : Value}
    {vcd_WrongThingu_initu : Option Addr}
    {vcs_WrongThingu_initu : Array (Option Value)}
    {wcl_WrongThingu_initu : Value}
    {wcd_WrongThingu_initu : Option Addr}
    {wdt_WrongThingu_initu : ClassData}
    {wsl_WrongThingu_initu : Array (Option Value)}
    (n_abs : PySem.W.nsIn K mainGlobals "abs" = some none)
    (n_any : PySem.W.nsIn K mainGlobals "any" = some none)
    (n_bool : PySem.W.nsIn K mainGlobals "bool" = some none)
    (n_int : PySem.W.nsIn K mainGlobals "int" = some none)
    (n_isinstance : PySem.W.nsIn K mainGlobals "isinstance" = some none)
    (n_len : PySem.W.nsIn K mainGlobals "len" = some none)
    (n_list : PySem.W.nsIn K mainGlobals "list" = some none)
    (n_max : PySem.W.nsIn K mainGlobals "max" = some none)
    (n_min : PySem.W.nsIn K mainGlobals "min" = some none)
    (n_range : PySem.W.nsIn K mainGlobals "range" = some none)
    (n_repr : PySem.W.nsIn K mainGlobals "repr" = some none)
    (n_str : PySem.W.nsIn K mainGlobals "str" = some none)
    (n_tuple : PySem.W.nsIn K mainGlobals "tuple" = some none)
    (c_LETTERS : PySem.W.nsIn K mainGlobals "LETTERS" = some (some (Value.str "abcdefghijklmnopqrstuvwxyz" t_LETTERS)))
    (c_LONGEST_TEXT : PySem.W.nsIn K mainGlobals "LONGEST_TEXT" = some (some (Value.int 200 t_LONGEST_TEXT)))
    (c_MOST_RULES : PySem.W.nsIn K mainGlobals "MOST_RULES" = some (some (Value.int 64 t_MOST_RULES)))
    (c_LONGEST_LEFT : PySem.W.nsIn K mainGlobals "LONGEST_LEFT" = some (some (Value.int 4 t_LONGEST_LEFT)))
    (a_is_listed : PySem.W.nsIn K mainGlobals "is_listed" = some (some (.ref f_is_listed)))
    (l_is_listed : K.lookup f_is_listed = some ⟨oc_is_listed, od_is_listed, .func (PySem.W.fnOf "is_listed" "is_listed" (defArgs s_is_listed) (defBody s_is_listed) (defScope s_is_listed) .none kV_is_listed dc_is_listed pm_is_listed an_is_listed cd_is_listed ct_is_listed), sl_is_listed⟩)
    (e_is_listed : PySem.W.codeIn K cd_is_listed "is_listed" = true)
    (k_is_listed : PySem.W.keepIn K (.ref f_is_listed) = true)
    (a_is_signs : PySem.W.nsIn K mainGlobals "is_signs" = some (some (.ref f_is_signs)))
    (l_is_signs : K.lookup f_is_signs = some ⟨oc_is_signs, od_is_signs, .func (PySem.W.fnOf "is_signs" "is_signs" (defArgs s_is_signs) (defBody s_is_signs) (defScope s_is_signs) .none kV_is_signs dc_is_signs pm_is_signs an_is_signs cd_is_signs ct_is_signs), sl_is_signs⟩)
    (e_is_signs : PySem.W.codeIn K cd_is_signs "is_signs" = true)
    (k_is_signs : PySem.W.keepIn K (.ref f_is_signs) = true)
    (a_check_signs : PySem.W.nsIn K mainGlobals "check_signs" = some (some (.ref f_check_signs)))
    (l_check_signs : K.lookup f_check_signs = some ⟨oc_check_signs, od_check_signs, .func (PySem.W.fnOf "check_signs" "check_signs" (defArgs s_check_signs) (defBody s_check_signs) (defScope s_check_signs) .none kV_check_signs dc_check_signs pm_check_signs an_check_signs cd_check_signs ct_check_signs), sl_check_signs⟩)
    (e_check_signs : PySem.W.codeIn K cd_check_signs "check_signs" = true)
    (k_check_signs : PySem.W.keepIn K (.ref f_check_signs) = true)
    (a_is_text : PySem.W.nsIn K mainGlobals "is_text" = some (some (.ref f_is_text)))
    (l_is_text : K.lookup f_is_text = some ⟨oc_is_text, od_is_text, .func (PySem.W.fnOf "is_text" "is_text" (defArgs s_is_text) (defBody s_is_text) (defScope s_is_text) .none kV_is_text dc_is_text pm_is_text an_is_text cd_is_text ct_is_text), sl_is_text⟩)
    (e_is_text : PySem.W.codeIn K cd_is_text "is_text" = true)
    (k_is_text : PySem.W.keepIn K (.ref f_is_text) = true)
    (a_check_text : PySem.W.nsIn K mainGlobals "check_text" = some (some (.ref f_check_text)))
    (l_check_text : K.lookup f_check_text = some ⟨oc_check_text, od_check_text, .func (PySem.W.fnOf "check_text" "check_text" (defArgs s_check_text) (defBody s_check_text) (defScope s_check_text) .none kV_check_text dc_check_text pm_check_text an_check_text cd_check_text ct_check_text), sl_check_text⟩)
    (e_check_text : PySem.W.codeIn K cd_check_text "check_text" = true)
    (k_check_text : PySem.W.keepIn K (.ref f_check_text) = true)
    (a_text_key : PySem.W.nsIn K mainGlobals "text_key" = some (some (.ref f_text_key)))
    (l_text_key : K.lookup f_text_key = some ⟨oc_text_key, od_text_key, .func (PySem.W.fnOf "text_key" "text_key" (defArgs s_text_key) (defBody s_text_key) (defScope s_text_key) .none kV_text_key dc_text_key pm_text_key an_text_key cd_text_key ct_text_key), sl_text_key⟩)
    (e_text_key : PySem.W.codeIn K cd_text_key "text_key" = true)
    (k_text_key : PySem.W.keepIn K (.ref f_text_key) = true)
    (a_first_rules : PySem.W.nsIn K mainGlobals "first_rules" = some (some (.ref f_first_rules)))
    (l_first_rules : K.lookup f_first_rules = some ⟨oc_first_rules, od_first_rules, .func (PySem.W.fnOf "first_rules" "first_rules" (defArgs s_first_rules) (defBody s_first_rules) (defScope s_first_rules) .none kV_first_rules dc_first_rules pm_first_rules an_first_rules cd_first_rules ct_first_rules), sl_first_rules⟩)
    (e_first_rules : PySem.W.codeIn K cd_first_rules "first_rules" = true)
    (k_first_rules : PySem.W.keepIn K (.ref f_first_rules) = true)
    (a_longest_left : PySem.W.nsIn K mainGlobals "longest_left" = some (some (.ref f_longest_left)))
    (l_longest_left : K.lookup f_longest_left = some ⟨oc_longest_left, od_longest_left, .func (PySem.W.fnOf "longest_left" "longest_left" (defArgs s_longest_left) (defBody s_longest_left) (defScope s_longest_left) .none kV_longest_left dc_longest_left pm_longest_left an_longest_left cd_longest_left ct_longest_left), sl_longest_left⟩)
    (e_longest_left : PySem.W.codeIn K cd_longest_left "longest_left" = true)
    (k_longest_left : PySem.W.keepIn K (.ref f_longest_left) = true)
    (a_used_at_end : PySem.W.nsIn K mainGlobals "used_at_end" = some (some (.ref f_used_at_end)))
    (l_used_at_end : K.lookup f_used_at_end = some ⟨oc_used_at_end, od_used_at_end, .func (PySem.W.fnOf "used_at_end" "used_at_end" (defArgs s_used_at_end) (defBody s_used_at_end) (defScope s_used_at_end) .none kV_used_at_end dc_used_at_end pm_used_at_end an_used_at_end cd_used_at_end ct_used_at_end), sl_used_at_end⟩)
    (e_used_at_end : PySem.W.codeIn K cd_used_at_end "used_at_end" = true)
    (k_used_at_end : PySem.W.keepIn K (.ref f_used_at_end) = true)
    (a_left_over : PySem.W.nsIn K mainGlobals "left_over" = some (some (.ref f_left_over)))
    (l_left_over : K.lookup f_left_over = some ⟨oc_left_over, od_left_over, .func (PySem.W.fnOf "left_over" "left_over" (defArgs s_left_over) (defBody s_left_over) (defScope s_left_over) .none kV_left_over dc_left_over pm_left_over an_left_over cd_left_over ct_left_over), sl_left_over⟩)
    (e_left_over : PySem.W.codeIn K cd_left_over "left_over" = true)
    (k_left_over : PySem.W.keepIn K (.ref f_left_over) = true)
    (a_overlap_rows : PySem.W.nsIn K mainGlobals "overlap_rows" = some (some (.ref f_overlap_rows)))
    (l_overlap_rows : K.lookup f_overlap_rows = some ⟨oc_overlap_rows, od_overlap_rows, .func (PySem.W.fnOf "overlap_rows" "overlap_rows" (defArgs s_overlap_rows) (defBody s_overlap_rows) (defScope s_overlap_rows) .none kV_overlap_rows dc_overlap_rows pm_overlap_rows an_overlap_rows cd_overlap_rows ct_overlap_rows), sl_overlap_rows⟩)
    (e_overlap_rows : PySem.W.codeIn K cd_overlap_rows "overlap_rows" = true)
    (k_overlap_rows : PySem.W.keepIn K (.ref f_overlap_rows) = true)
    (a_both_results : PySem.W.nsIn K mainGlobals "both_results" = some (some (.ref f_both_results)))
    (l_both_results : K.lookup f_both_results = some ⟨oc_both_results, od_both_results, .func (PySem.W.fnOf "both_results" "both_results" (defArgs s_both_results) (defBody s_both_results) (defScope s_both_results) .none kV_both_results dc_both_results pm_both_results an_both_results cd_both_results ct_both_results), sl_both_results⟩)
    (e_both_results : PySem.W.codeIn K cd_both_results "both_results" = true)
    (k_both_results : PySem.W.keepIn K (.ref f_both_results) = true)
    (a_quarrel_of : PySem.W.nsIn K mainGlobals "quarrel_of" = some (some (.ref f_quarrel_of)))
    (l_quarrel_of : K.lookup f_quarrel_of = some ⟨oc_quarrel_of, od_quarrel_of, .func (PySem.W.fnOf "quarrel_of" "quarrel_of" (defArgs s_quarrel_of) (defBody s_quarrel_of) (defScope s_quarrel_of) .none kV_quarrel_of dc_quarrel_of pm_quarrel_of an_quarrel_of cd_quarrel_of ct_quarrel_of), sl_quarrel_of⟩)
    (e_quarrel_of : PySem.W.codeIn K cd_quarrel_of "quarrel_of" = true)
    (k_quarrel_of : PySem.W.keepIn K (.ref f_quarrel_of) = true)
    (a_end_moves : PySem.W.nsIn K mainGlobals "end_moves" = some (some (.ref f_end_moves)))
    (l_end_moves : K.lookup f_end_moves = some ⟨oc_end_moves, od_end_moves, .func (PySem.W.fnOf "end_moves" "end_moves" (defArgs s_end_moves) (defBody s_end_moves) (defScope s_end_moves) .none kV_end_moves dc_end_moves pm_end_moves an_end_moves cd_end_moves ct_end_moves), sl_end_moves⟩)
    (e_end_moves : PySem.W.codeIn K cd_end_moves "end_moves" = true)
    (k_end_moves : PySem.W.keepIn K (.ref f_end_moves) = true)
    (a_kept_tail : PySem.W.nsIn K mainGlobals "kept_tail" = some (some (.ref f_kept_tail)))
    (l_kept_tail : K.lookup f_kept_tail = some ⟨oc_kept_tail, od_kept_tail, .func (PySem.W.fnOf "kept_tail" "kept_tail" (defArgs s_kept_tail) (defBody s_kept_tail) (defScope s_kept_tail) .none kV_kept_tail dc_kept_tail pm_kept_tail an_kept_tail cd_kept_tail ct_kept_tail), sl_kept_tail⟩)
    (e_kept_tail : PySem.W.codeIn K cd_kept_tail "kept_tail" = true)
    (k_kept_tail : PySem.W.keepIn K (.ref f_kept_tail) = true)
    (a_is_rule : PySem.W.nsIn K mainGlobals "is_rule" = some (some (.ref f_is_rule)))
    (l_is_rule : K.lookup f_is_rule = some ⟨oc_is_rule, od_is_rule, .func (PySem.W.fnOf "is_rule" "is_rule" (defArgs s_is_rule) (defBody s_is_rule) (defScope s_is_rule) .none kV_is_rule dc_is_rule pm_is_rule an_is_rule cd_is_rule ct_is_rule), sl_is_rule⟩)
    (e_is_rule : PySem.W.codeIn K cd_is_rule "is_rule" = true)
    (k_is_rule : PySem.W.keepIn K (.ref f_is_rule) = true)
    (a_checked_rules : PySem.W.nsIn K mainGlobals "checked_rules" = some (some (.ref f_checked_rules)))
    (l_checked_rules : K.lookup f_checked_rules = some ⟨oc_checked_rules, od_checked_rules, .func (PySem.W.fnOf "checked_rules" "checked_rules" (defArgs s_checked_rules) (defBody s_checked_rules) (defScope s_checked_rules) .none kV_checked_rules dc_checked_rules pm_checked_rules an_checked_rules cd_checked_rules ct_checked_rules), sl_checked_rules⟩)
    (e_checked_rules : PySem.W.codeIn K cd_checked_rules "checked_rules" = true)
    (k_checked_rules : PySem.W.keepIn K (.ref f_checked_rules) = true)
    (a_Booku_initu : PySem.W.findIn K (.ref C_Book) "__init__" = some (some (.ref f_Booku_initu)))
    (l_Booku_initu : K.lookup f_Booku_initu = some ⟨oc_Booku_initu, od_Booku_initu, .func (PySem.W.fnOf "__init__" "Book.__init__" (defArgs s_Booku_initu) (defBody s_Booku_initu) (defScope s_Booku_initu) .none kV_Booku_initu dc_Booku_initu pm_Booku_initu an_Booku_initu cd_Booku_initu ct_Booku_initu), sl_Booku_initu⟩)
    (e_Booku_initu : PySem.W.codeIn K cd_Booku_initu "Book.__init__" = true)
    (k_Booku_initu : PySem.W.keepIn K (.ref f_Booku_initu) = true)
    (a_Booku_callu : PySem.W.findIn K (.ref C_Book) "__call__" = some (some (.ref f_Booku_callu)))
    (l_Booku_callu : K.lookup f_Booku_callu = some ⟨oc_Booku_callu, od_Booku_callu, .func (PySem.W.fnOf "__call__" "Book.__call__" (defArgs s_Booku_callu) (defBody s_Booku_callu) (defScope s_Booku_callu) .none kV_Booku_callu dc_Booku_callu pm_Booku_callu an_Booku_callu cd_Booku_callu ct_Booku_callu), sl_Booku_callu⟩)
    (e_Booku_callu : PySem.W.codeIn K cd_Booku_callu "Book.__call__" = true)
    (k_Booku_callu : PySem.W.keepIn K (.ref f_Booku_callu) = true)
    (a_rest_of : PySem.W.nsIn K mainGlobals "rest_of" = some (some (.ref f_rest_of)))
    (l_rest_of : K.lookup f_rest_of = some ⟨oc_rest_of, od_rest_of, .func (PySem.W.fnOf "rest_of" "rest_of" (defArgs s_rest_of) (defBody s_rest_of) (defScope s_rest_of) .none kV_rest_of dc_rest_of pm_rest_of an_rest_of cd_rest_of ct_rest_of), sl_rest_of⟩)
    (e_rest_of : PySem.W.codeIn K cd_rest_of "rest_of" = true)
    (k_rest_of : PySem.W.keepIn K (.ref f_rest_of) = true)
    (a_check_settled : PySem.W.nsIn K mainGlobals "check_settled" = some (some (.ref f_check_settled)))
    (l_check_settled : K.lookup f_check_settled = some ⟨oc_check_settled, od_check_settled, .func (PySem.W.fnOf "check_settled" "check_settled" (defArgs s_check_settled) (defBody s_check_settled) (defScope s_check_settled) .none kV_check_settled dc_check_settled pm_check_settled an_check_settled cd_check_settled ct_check_settled), sl_check_settled⟩)
    (e_check_settled : PySem.W.codeIn K cd_check_settled "check_settled" = true)
    (k_check_settled : PySem.W.keepIn K (.ref f_check_settled) = true)
    (a__law_source : PySem.W.nsIn K mainGlobals "_law_source" = some (some (.ref f__law_source)))
    (l__law_source : K.lookup f__law_source = some ⟨oc__law_source, od__law_source, .func (PySem.W.fnOf "_law_source" "_law_source" (defArgs s__law_source) (defBody s__law_source) (defScope s__law_source) .none kV__law_source dc__law_source pm__law_source an__law_source cd__law_source ct__law_source), sl__law_source⟩)
    (e__law_source : PySem.W.codeIn K cd__law_source "_law_source" = true)
    (k__law_source : PySem.W.keepIn K (.ref f__law_source) = true)
    (a__law_pick : PySem.W.nsIn K mainGlobals "_law_pick" = some (some (.ref f__law_pick)))
    (l__law_pick : K.lookup f__law_pick = some ⟨oc__law_pick, od__law_pick, .func (PySem.W.fnOf "_law_pick" "_law_pick" (defArgs s__law_pick) (defBody s__law_pick) (defScope s__law_pick) .none kV__law_pick dc__law_pick pm__law_pick an__law_pick cd__law_pick ct__law_pick), sl__law_pick⟩)
    (e__law_pick : PySem.W.codeIn K cd__law_pick "_law_pick" = true)
    (k__law_pick : PySem.W.keepIn K (.ref f__law_pick) = true)
    (a__law_signs : PySem.W.nsIn K mainGlobals "_law_signs" = some (some (.ref f__law_signs)))
    (l__law_signs : K.lookup f__law_signs = some ⟨oc__law_signs, od__law_signs, .func (PySem.W.fnOf "_law_signs" "_law_signs" (defArgs s__law_signs) (defBody s__law_signs) (defScope s__law_signs) .none kV__law_signs dc__law_signs pm__law_signs an__law_signs cd__law_signs ct__law_signs), sl__law_signs⟩)
    (e__law_signs : PySem.W.codeIn K cd__law_signs "_law_signs" = true)
    (k__law_signs : PySem.W.keepIn K (.ref f__law_signs) = true)
    (a__law_text : PySem.W.nsIn K mainGlobals "_law_text" = some (some (.ref f__law_text)))
    (l__law_text : K.lookup f__law_text = some ⟨oc__law_text, od__law_text, .func (PySem.W.fnOf "_law_text" "_law_text" (defArgs s__law_text) (defBody s__law_text) (defScope s__law_text) .none kV__law_text dc__law_text pm__law_text an__law_text cd__law_text ct__law_text), sl__law_text⟩)
    (e__law_text : PySem.W.codeIn K cd__law_text "_law_text" = true)
    (k__law_text : PySem.W.keepIn K (.ref f__law_text) = true)
    (a__law_key : PySem.W.nsIn K mainGlobals "_law_key" = some (some (.ref f__law_key)))
    (l__law_key : K.lookup f__law_key = some ⟨oc__law_key, od__law_key, .func (PySem.W.fnOf "_law_key" "_law_key" (defArgs s__law_key) (defBody s__law_key) (defScope s__law_key) .none kV__law_key dc__law_key pm__law_key an__law_key cd__law_key ct__law_key), sl__law_key⟩)
    (e__law_key : PySem.W.codeIn K cd__law_key "_law_key" = true)
    (k__law_key : PySem.W.keepIn K (.ref f__law_key) = true)
    (a__law_left : PySem.W.nsIn K mainGlobals "_law_left" = some (some (.ref f__law_left)))
    (l__law_left : K.lookup f__law_left = some ⟨oc__law_left, od__law_left, .func (PySem.W.fnOf "_law_left" "_law_left" (defArgs s__law_left) (defBody s__law_left) (defScope s__law_left) .none kV__law_left dc__law_left pm__law_left an__law_left cd__law_left ct__law_left), sl__law_left⟩)
    (e__law_left : PySem.W.codeIn K cd__law_left "_law_left" = true)
    (k__law_left : PySem.W.keepIn K (.ref f__law_left) = true)
    (a__law_quarrel : PySem.W.nsIn K mainGlobals "_law_quarrel" = some (some (.ref f__law_quarrel)))
    (l__law_quarrel : K.lookup f__law_quarrel = some ⟨oc__law_quarrel, od__law_quarrel, .func (PySem.W.fnOf "_law_quarrel" "_law_quarrel" (defArgs s__law_quarrel) (defBody s__law_quarrel) (defScope s__law_quarrel) .none kV__law_quarrel dc__law_quarrel pm__law_quarrel an__law_quarrel cd__law_quarrel ct__law_quarrel), sl__law_quarrel⟩)
    (e__law_quarrel : PySem.W.codeIn K cd__law_quarrel "_law_quarrel" = true)
    (k__law_quarrel : PySem.W.keepIn K (.ref f__law_quarrel) = true)
    (a__law_rule : PySem.W.nsIn K mainGlobals "_law_rule" = some (some (.ref f__law_rule)))
    (l__law_rule : K.lookup f__law_rule = some ⟨oc__law_rule, od__law_rule, .func (PySem.W.fnOf "_law_rule" "_law_rule" (defArgs s__law_rule) (defBody s__law_rule) (defScope s__law_rule) .none kV__law_rule dc__law_rule pm__law_rule an__law_rule cd__law_rule ct__law_rule), sl__law_rule⟩)
    (e__law_rule : PySem.W.codeIn K cd__law_rule "_law_rule" = true)
    (k__law_rule : PySem.W.keepIn K (.ref f__law_rule) = true)
    (a__law_grown : PySem.W.nsIn K mainGlobals "_law_grown" = some (some (.ref f__law_grown)))
    (l__law_grown : K.lookup f__law_grown = some ⟨oc__law_grown, od__law_grown, .func (PySem.W.fnOf "_law_grown" "_law_grown" (defArgs s__law_grown) (defBody s__law_grown) (defScope s__law_grown) .none kV__law_grown dc__law_grown pm__law_grown an__law_grown cd__law_grown ct__law_grown), sl__law_grown⟩)
    (e__law_grown : PySem.W.codeIn K cd__law_grown "_law_grown" = true)
    (k__law_grown : PySem.W.keepIn K (.ref f__law_grown) = true)
    (a__law_table_rules : PySem.W.nsIn K mainGlobals "_law_table_rules" = some (some (.ref f__law_table_rules)))
    (l__law_table_rules : K.lookup f__law_table_rules = some ⟨oc__law_table_rules, od__law_table_rules, .func (PySem.W.fnOf "_law_table_rules" "_law_table_rules" (defArgs s__law_table_rules) (defBody s__law_table_rules) (defScope s__law_table_rules) .none kV__law_table_rules dc__law_table_rules pm__law_table_rules an__law_table_rules cd__law_table_rules ct__law_table_rules), sl__law_table_rules⟩)
    (e__law_table_rules : PySem.W.codeIn K cd__law_table_rules "_law_table_rules" = true)
    (k__law_table_rules : PySem.W.keepIn K (.ref f__law_table_rules) = true)
    (a__law_book : PySem.W.nsIn K mainGlobals "_law_book" = some (some (.ref f__law_book)))
    (l__law_book : K.lookup f__law_book = some ⟨oc__law_book, od__law_book, .func (PySem.W.fnOf "_law_book" "_law_book" (defArgs s__law_book) (defBody s__law_book) (defScope s__law_book) .none kV__law_book dc__law_book pm__law_book an__law_book cd__law_book ct__law_book), sl__law_book⟩)
    (e__law_book : PySem.W.codeIn K cd__law_book "_law_book" = true)
    (k__law_book : PySem.W.keepIn K (.ref f__law_book) = true)
    (a__law_known : PySem.W.nsIn K mainGlobals "_law_known" = some (some (.ref f__law_known)))
    (l__law_known : K.lookup f__law_known = some ⟨oc__law_known, od__law_known, .func (PySem.W.fnOf "_law_known" "_law_known" (defArgs s__law_known) (defBody s__law_known) (defScope s__law_known) .none kV__law_known dc__law_known pm__law_known an__law_known cd__law_known ct__law_known), sl__law_known⟩)
    (e__law_known : PySem.W.codeIn K cd__law_known "_law_known" = true)
    (k__law_known : PySem.W.keepIn K (.ref f__law_known) = true)
    (a__law_some : PySem.W.nsIn K mainGlobals "_law_some" = some (some (.ref f__law_some)))
    (l__law_some : K.lookup f__law_some = some ⟨oc__law_some, od__law_some, .func (PySem.W.fnOf "_law_some" "_law_some" (defArgs s__law_some) (defBody s__law_some) (defScope s__law_some) .none kV__law_some dc__law_some pm__law_some an__law_some cd__law_some ct__law_some), sl__law_some⟩)
    (e__law_some : PySem.W.codeIn K cd__law_some "_law_some" = true)
    (k__law_some : PySem.W.keepIn K (.ref f__law_some) = true)
    (a_law : PySem.W.nsIn K mainGlobals "law" = some (some (.ref f_law)))
    (l_law : K.lookup f_law = some ⟨oc_law, od_law, .func (PySem.W.fnOf "law" "law" (defArgs s_law) (defBody s_law) (defScope s_law) .none kV_law dc_law pm_law an_law cd_law ct_law), sl_law⟩)
    (e_law : PySem.W.codeIn K cd_law "law" = true)
    (k_law : PySem.W.keepIn K (.ref f_law) = true)
    (a_Booku_equ : PySem.W.findIn K (.ref C_Book) "__eq__" = some (some (.ref f_Booku_equ)))
    (l_Booku_equ : K.lookup f_Booku_equ = some ⟨oc_Booku_equ, od_Booku_equ, .func (PySem.W.fnOf "__eq__" "Book.__eq__" (defArgs s_Booku_equ) (defBody s_Booku_equ) (defScope s_Booku_equ) .none kV_Booku_equ dc_Booku_equ pm_Booku_equ an_Booku_equ cd_Booku_equ ct_Booku_equ), sl_Booku_equ⟩)
    (e_Booku_equ : PySem.W.codeIn K cd_Booku_equ "Book.__eq__" = true)
    (k_Booku_equ : PySem.W.keepIn K (.ref f_Booku_equ) = true)
    (a_Keepsu_initu : PySem.W.findIn K (.ref C_Keeps) "__init__" = some (some (.ref f_Keepsu_initu)))
    (l_Keepsu_initu : K.lookup f_Keepsu_initu = some ⟨oc_Keepsu_initu, od_Keepsu_initu, .func (PySem.W.fnOf "__init__" "Keeps.__init__" (defArgs s_Keepsu_initu) (defBody s_Keepsu_initu) (defScope s_Keepsu_initu) .none kV_Keepsu_initu dc_Keepsu_initu pm_Keepsu_initu an_Keepsu_initu cd_Keepsu_initu ct_Keepsu_initu), sl_Keepsu_initu⟩)
    (e_Keepsu_initu : PySem.W.codeIn K cd_Keepsu_initu "Keeps.__init__" = true)
    (k_Keepsu_initu : PySem.W.keepIn K (.ref f_Keepsu_initu) = true)
    (a_Keepsu_boolu : PySem.W.findIn K (.ref C_Keeps) "__bool__" = some (some (.ref f_Keepsu_boolu)))
    (l_Keepsu_boolu : K.lookup f_Keepsu_boolu = some ⟨oc_Keepsu_boolu, od_Keepsu_boolu, .func (PySem.W.fnOf "__bool__" "Keeps.__bool__" (defArgs s_Keepsu_boolu) (defBody s_Keepsu_boolu) (defScope s_Keepsu_boolu) .none kV_Keepsu_boolu dc_Keepsu_boolu pm_Keepsu_boolu an_Keepsu_boolu cd_Keepsu_boolu ct_Keepsu_boolu), sl_Keepsu_boolu⟩)
    (e_Keepsu_boolu : PySem.W.codeIn K cd_Keepsu_boolu "Keeps.__bool__" = true)
    (k_Keepsu_boolu : PySem.W.keepIn K (.ref f_Keepsu_boolu) = true)
    (a_checked_images : PySem.W.nsIn K mainGlobals "checked_images" = some (some (.ref f_checked_images)))
    (l_checked_images : K.lookup f_checked_images = some ⟨oc_checked_images, od_checked_images, .func (PySem.W.fnOf "checked_images" "checked_images" (defArgs s_checked_images) (defBody s_checked_images) (defScope s_checked_images) .none kV_checked_images dc_checked_images pm_checked_images an_checked_images cd_checked_images ct_checked_images), sl_checked_images⟩)
    (e_checked_images : PySem.W.codeIn K cd_checked_images "checked_images" = true)
    (k_checked_images : PySem.W.keepIn K (.ref f_checked_images) = true)
    (a_image_end : PySem.W.nsIn K mainGlobals "image_end" = some (some (.ref f_image_end)))
    (l_image_end : K.lookup f_image_end = some ⟨oc_image_end, od_image_end, .func (PySem.W.fnOf "image_end" "image_end" (defArgs s_image_end) (defBody s_image_end) (defScope s_image_end) .none kV_image_end dc_image_end pm_image_end an_image_end cd_image_end ct_image_end), sl_image_end⟩)
    (e_image_end : PySem.W.codeIn K cd_image_end "image_end" = true)
    (k_image_end : PySem.W.keepIn K (.ref f_image_end) = true)
    (a_Sendingu_initu : PySem.W.findIn K (.ref C_Sending) "__init__" = some (some (.ref f_Sendingu_initu)))
    (l_Sendingu_initu : K.lookup f_Sendingu_initu = some ⟨oc_Sendingu_initu, od_Sendingu_initu, .func (PySem.W.fnOf "__init__" "Sending.__init__" (defArgs s_Sendingu_initu) (defBody s_Sendingu_initu) (defScope s_Sendingu_initu) .none kV_Sendingu_initu dc_Sendingu_initu pm_Sendingu_initu an_Sendingu_initu cd_Sendingu_initu ct_Sendingu_initu), sl_Sendingu_initu⟩)
    (e_Sendingu_initu : PySem.W.codeIn K cd_Sendingu_initu "Sending.__init__" = true)
    (k_Sendingu_initu : PySem.W.keepIn K (.ref f_Sendingu_initu) = true)
    (a_Sendingu_equ : PySem.W.findIn K (.ref C_Sending) "__eq__" = some (some (.ref f_Sendingu_equ)))
    (l_Sendingu_equ : K.lookup f_Sendingu_equ = some ⟨oc_Sendingu_equ, od_Sendingu_equ, .func (PySem.W.fnOf "__eq__" "Sending.__eq__" (defArgs s_Sendingu_equ) (defBody s_Sendingu_equ) (defScope s_Sendingu_equ) .none kV_Sendingu_equ dc_Sendingu_equ pm_Sendingu_equ an_Sendingu_equ cd_Sendingu_equ ct_Sendingu_equ), sl_Sendingu_equ⟩)
    (e_Sendingu_equ : PySem.W.codeIn K cd_Sendingu_equ "Sending.__eq__" = true)
    (k_Sendingu_equ : PySem.W.keepIn K (.ref f_Sendingu_equ) = true)
    (a_Sendingu_callu : PySem.W.findIn K (.ref C_Sending) "__call__" = some (some (.ref f_Sendingu_callu)))
    (l_Sendingu_callu : K.lookup f_Sendingu_callu = some ⟨oc_Sendingu_callu, od_Sendingu_callu, .func (PySem.W.fnOf "__call__" "Sending.__call__" (defArgs s_Sendingu_callu) (defBody s_Sendingu_callu) (defScope s_Sendingu_callu) .none kV_Sendingu_callu dc_Sendingu_callu pm_Sendingu_callu an_Sendingu_callu cd_Sendingu_callu ct_Sendingu_callu), sl_Sendingu_callu⟩)
    (e_Sendingu_callu : PySem.W.codeIn K cd_Sendingu_callu "Sending.__call__" = true)
    (k_Sendingu_callu : PySem.W.keepIn K (.ref f_Sendingu_callu) = true)
    (a_Sending_keeps : PySem.W.findIn K (.ref C_Sending) "keeps" = some (some (.ref f_Sending_keeps)))
    (l_Sending_keeps : K.lookup f_Sending_keeps = some ⟨oc_Sending_keeps, od_Sending_keeps, .func (PySem.W.fnOf "keeps" "Sending.keeps" (defArgs s_Sending_keeps) (defBody s_Sending_keeps) (defScope s_Sending_keeps) .none kV_Sending_keeps dc_Sending_keeps pm_Sending_keeps an_Sending_keeps cd_Sending_keeps ct_Sending_keeps), sl_Sending_keeps⟩)
    (e_Sending_keeps : PySem.W.codeIn K cd_Sending_keeps "Sending.keeps" = true)
    (k_Sending_keeps : PySem.W.keepIn K (.ref f_Sending_keeps) = true)
    (a__law_image : PySem.W.nsIn K mainGlobals "_law_image" = some (some (.ref f__law_image)))
    (l__law_image : K.lookup f__law_image = some ⟨oc__law_image, od__law_image, .func (PySem.W.fnOf "_law_image" "_law_image" (defArgs s__law_image) (defBody s__law_image) (defScope s__law_image) .none kV__law_image dc__law_image pm__law_image an__law_image cd__law_image ct__law_image), sl__law_image⟩)
    (e__law_image : PySem.W.codeIn K cd__law_image "_law_image" = true)
    (k__law_image : PySem.W.keepIn K (.ref f__law_image) = true)
    (a__law_refused : PySem.W.nsIn K mainGlobals "_law_refused" = some (some (.ref f__law_refused)))
    (l__law_refused : K.lookup f__law_refused = some ⟨oc__law_refused, od__law_refused, .func (PySem.W.fnOf "_law_refused" "_law_refused" (defArgs s__law_refused) (defBody s__law_refused) (defScope s__law_refused) .none kV__law_refused dc__law_refused pm__law_refused an__law_refused cd__law_refused ct__law_refused), sl__law_refused⟩)
    (e__law_refused : PySem.W.codeIn K cd__law_refused "_law_refused" = true)
    (k__law_refused : PySem.W.keepIn K (.ref f__law_refused) = true)
    (g_Book : PySem.W.nsIn K mainGlobals "Book" = some (some (.ref C_Book)))
    (pg_Book : PySem.W.plainGet K C_Book Str.empty = true)
    (hd_Book : PySem.W.hasDictIn K C_Book = true)
    (po_Book : PySem.W.plainOver K C_Book = true)
    (sa_Book : PySem.W.findIn K (.ref C_Book) "__setattr__" = some (some (.builtin "object.__setattr__")))
    (mk_Book : PySem.W.makesIn K C_Book = true)
    (if_Book : PySem.W.isFn K (.ref f_Booku_initu) = true)
    (kc_Book : PySem.W.keepIn K (.ref C_Book) = true)
    (ci_Book : PySem.W.isFn K (.ref f_Booku_callu) = true)
    (cf_Book : PySem.W.fnIn K f_Booku_callu = true)
    (x_Book_signs : PySem.W.findIn K (.ref C_Book) "signs" = some none)
    (x_Book_rules : PySem.W.findIn K (.ref C_Book) "rules" = some none)
    (x_Book__lefts : PySem.W.findIn K (.ref C_Book) "_lefts" = some none)
    (x_Book__longest : PySem.W.findIn K (.ref C_Book) "_longest" = some none)
    (x_Book__quarrel : PySem.W.findIn K (.ref C_Book) "_quarrel" = some none)
    (x_Book__moves : PySem.W.findIn K (.ref C_Book) "_moves" = some none)
    (g_Keeps : PySem.W.nsIn K mainGlobals "Keeps" = some (some (.ref C_Keeps)))
    (pg_Keeps : PySem.W.plainGet K C_Keeps Str.empty = true)
    (hd_Keeps : PySem.W.hasDictIn K C_Keeps = true)
    (po_Keeps : PySem.W.plainOver K C_Keeps = true)
    (sa_Keeps : PySem.W.findIn K (.ref C_Keeps) "__setattr__" = some (some (.builtin "object.__setattr__")))
    (mk_Keeps : PySem.W.makesIn K C_Keeps = true)
    (if_Keeps : PySem.W.isFn K (.ref f_Keepsu_initu) = true)
    (kc_Keeps : PySem.W.keepIn K (.ref C_Keeps) = true)
    (x_Keeps_holds : PySem.W.findIn K (.ref C_Keeps) "holds" = some none)
    (x_Keeps_number : PySem.W.findIn K (.ref C_Keeps) "number" = some none)
    (g_Sending : PySem.W.nsIn K mainGlobals "Sending" = some (some (.ref C_Sending)))
    (pg_Sending : PySem.W.plainGet K C_Sending Str.empty = true)
    (hd_Sending : PySem.W.hasDictIn K C_Sending = true)
    (po_Sending : PySem.W.plainOver K C_Sending = true)
    (sa_Sending : PySem.W.findIn K (.ref C_Sending) "__setattr__" = some (some (.builtin "object.__setattr__")))
    (mk_Sending : PySem.W.makesIn K C_Sending = true)
    (if_Sending : PySem.W.isFn K (.ref f_Sendingu_initu) = true)
    (kc_Sending : PySem.W.keepIn K (.ref C_Sending) = true)
    (ci_Sending : PySem.W.isFn K (.ref f_Sendingu_callu) = true)
    (cf_Sending : PySem.W.fnIn K f_Sendingu_callu = true)
    (x_Sending_one : PySem.W.findIn K (.ref C_Sending) "one" = some none)
    (x_Sending_other : PySem.W.findIn K (.ref C_Sending) "other" = some none)
    (x_Sending_images : PySem.W.findIn K (.ref C_Sending) "images" = some none)
    (ps_Booku_equ : PySem.W.isFn K (.ref f_Booku_equ) = true)
    (ps_Keepsu_boolu : PySem.W.isFn K (.ref f_Keepsu_boolu) = true)
    (ps_Sendingu_equ : PySem.W.isFn K (.ref f_Sendingu_equ) = true)
    (ps_Sending_keeps : PySem.W.isFn K (.ref f_Sending_keeps) = true)
    (nf_Sending : PySem.W.notFirst K C_Sending (.type "tuple") = true)
    (ic1_Book : PySem.W.findIn K (.ref C_Book) "__class__" = some (some (.builtin "object.__class__")))
    (ic2 : PySem.W.specialIn K (.builtin "object.__class__") "__get__" = some (some (.builtin "getset_descriptor.__get__")))
    (ic3 : PySem.W.takesIn K (.builtin "object.__class__") = some true)
    (ic4_Book : PySem.W.mroIn K C_Book (.type "object") = some true)
    (it_Book : PySem.W.kitOne K (.type "tuple") (.ref C_Book) = some false)
    (ic1_Sending : PySem.W.findIn K (.ref C_Sending) "__class__" = some (some (.builtin "object.__class__")))
    (ic4_Sending : PySem.W.mroIn K C_Sending (.type "object") = some true)
    (it_Sending : PySem.W.kitOne K (.type "tuple") (.ref C_Sending) = some false)
    (it_BadImage_WrongItem : PySem.W.kitOne K (.ref C_BadImage) (.ref C_WrongItem) = some true)
    (g_BadImage : PySem.W.nsIn K mainGlobals "BadImage" = some (some (.ref C_BadImage)))
    (g_BadText : PySem.W.nsIn K mainGlobals "BadText" = some (some (.ref C_BadText)))
    (g_WrongItem : PySem.W.nsIn K mainGlobals "WrongItem" = some (some (.ref C_WrongItem)))
    (g_WrongThing : PySem.W.nsIn K mainGlobals "WrongThing" = some (some (.ref C_WrongThing)))
    (oc_BadImage : K.lookup C_BadImage = some (excClassObj xnm_BadImage xq_BadImage C_BadImage xN_BadImage xbs_BadImage xbm_BadImage true xsn_BadImage xsub_BadImage xab_BadImage xcol_BadImage xdd_BadImage xk0_BadImage xk1_BadImage xk2_BadImage xk3_BadImage xk5_BadImage "ValueError.__new__"))
    (ov_BadImage : PySem.HandSPX.refsVE xbm_BadImage = true)
    (os_BadImage : PySem.W.findIn K (.ref C_BadImage) "__setattr__" = some (some (.builtin "object.__setattr__")))
    (ob_BadImage : PySem.W.subIn K (.ref C_BadImage) (.type "BaseException") = some true)
    (oy_BadImage : PySem.W.typeIn K (.ref C_BadImage) = some (.type "type"))
    (ok_BadImage : PySem.W.keepIn K (.ref C_BadImage) = true)
    (xg1_BadImage : PySem.W.findIn K (.ref C_BadImage) "__getattribute__" = some (some (.builtin "BaseException.__getattribute__")))
    (xg2_BadImage : PySem.W.findIn K (.ref C_BadImage) "__getattr__" = some none)
    (xg4_BadImage : PySem.W.hasDictIn K C_BadImage = true)
    (xn_BadImage_place : PySem.W.findIn K (.ref C_BadImage) "place" = some none)
    (oi_BadImage : PySem.W.findIn K (.ref C_BadImage) "__init__" = some (some (.ref f_WrongItemu_initu)))
    (sx1_BadImage : PySem.W.mroIn K C_BadImage (.ref C_WrongItem) = some true)
    (sx2_BadImage : PySem.W.ks_superIn K C_BadImage C_WrongItem "__init__" = some (some (.builtin "ValueError.__init__")))
    (sx3_BadImage : PySem.W.subIn K (.ref C_BadImage) (.type "ValueError") = some true)
    (xm_BadImage_BadImage : PySem.W.exmOne K (.ref C_BadImage) (.ref C_BadImage) = some true)
    (xm_BadImage_BadText : PySem.W.exmOne K (.ref C_BadImage) (.ref C_BadText) = some false)
    (oc_BadText : K.lookup C_BadText = some (excClassObj xnm_BadText xq_BadText C_BadText xN_BadText xbs_BadText xbm_BadText true xsn_BadText xsub_BadText xab_BadText xcol_BadText xdd_BadText xk0_BadText xk1_BadText xk2_BadText xk3_BadText xk5_BadText "ValueError.__new__"))
    (ov_BadText : PySem.HandSPX.refsVE xbm_BadText = true)
    (os_BadText : PySem.W.findIn K (.ref C_BadText) "__setattr__" = some (some (.builtin "object.__setattr__")))
    (ob_BadText : PySem.W.subIn K (.ref C_BadText) (.type "BaseException") = some true)
    (oy_BadText : PySem.W.typeIn K (.ref C_BadText) = some (.type "type"))
    (ok_BadText : PySem.W.keepIn K (.ref C_BadText) = true)
    (xg1_BadText : PySem.W.findIn K (.ref C_BadText) "__getattribute__" = some (some (.builtin "BaseException.__getattribute__")))
    (xg2_BadText : PySem.W.findIn K (.ref C_BadText) "__getattr__" = some none)
    (xg4_BadText : PySem.W.hasDictIn K C_BadText = true)
    (xn_BadText_thing : PySem.W.findIn K (.ref C_BadText) "thing" = some none)
    (oi_BadText : PySem.W.findIn K (.ref C_BadText) "__init__" = some (some (.ref f_WrongThingu_initu)))
    (sx1_BadText : PySem.W.mroIn K C_BadText (.ref C_WrongThing) = some true)
    (sx2_BadText : PySem.W.ks_superIn K C_BadText C_WrongThing "__init__" = some (some (.builtin "ValueError.__init__")))
    (sx3_BadText : PySem.W.subIn K (.ref C_BadText) (.type "ValueError") = some true)
    (xm_BadText_BadImage : PySem.W.exmOne K (.ref C_BadText) (.ref C_BadImage) = some false)
    (xm_BadText_BadText : PySem.W.exmOne K (.ref C_BadText) (.ref C_BadText) = some true)
    (l_WrongItemu_initu : K.lookup f_WrongItemu_initu = some ⟨oc_WrongItemu_initu, od_WrongItemu_initu, .func (PySem.W.fnX "__init__" "WrongItem.__init__" (defArgs s_WrongItemu_initu) (defBody s_WrongItemu_initu) (defScope s_WrongItemu_initu) [("__class__", cc_WrongItemu_initu)] .none kV_WrongItemu_initu dc_WrongItemu_initu pm_WrongItemu_initu an_WrongItemu_initu (.ref cda_WrongItemu_initu) ct_WrongItemu_initu), sl_WrongItemu_initu⟩)
    (e_WrongItemu_initu : PySem.W.codeIn K (.ref cda_WrongItemu_initu) "WrongItem.__init__" = true)
    (ot_WrongItemu_initu : PySem.W.typeIn K (.ref f_WrongItemu_initu) = some (.type "function"))
    (u1_WrongItemu_initu : K.lookup cda_WrongItemu_initu = some ⟨ucl_WrongItemu_initu, udd_WrongItemu_initu, .fields uvs_WrongItemu_initu, ucs_WrongItemu_initu⟩)
    (u2_WrongItemu_initu : uvs_WrongItemu_initu[2]? = some (.str ufl_WrongItemu_initu utf_WrongItemu_initu))
    (u3_WrongItemu_initu : ((P.main.file : Str) == ufl_WrongItemu_initu) = true)
    (u4 : (P.main.scope.names.lookup ("super" : Str)).isSome = false)
    (u5_WrongItemu_initu : K.lookup cc_WrongItemu_initu = some ⟨vcl_WrongItemu_initu, vcd_WrongItemu_initu, .cell (some (.ref C_WrongItem)), vcs_WrongItemu_initu⟩)
    (u6_WrongItemu_initu : K.lookup C_WrongItem = some ⟨wcl_WrongItemu_initu, wcd_WrongItemu_initu, .cls wdt_WrongItemu_initu, wsl_WrongItemu_initu⟩)
    (u7 : PySem.W.nsIn K mainGlobals "super" = some none)
    (u8 : PySem.W.nsIn K PySem.cStatics "thirdparty.any" = some none)
    (l_WrongThingu_initu : K.lookup f_WrongThingu_initu = some ⟨oc_WrongThingu_initu, od_WrongThingu_initu, .func (PySem.W.fnX "__init__" "WrongThing.__init__" (defArgs s_WrongThingu_initu) (defBody s_WrongThingu_initu) (defScope s_WrongThingu_initu) [("__class__", cc_WrongThingu_initu)] .none kV_WrongThingu_initu dc_WrongThingu_initu pm_WrongThingu_initu an_WrongThingu_initu (.ref cda_WrongThingu_initu) ct_WrongThingu_initu), sl_WrongThingu_initu⟩)
    (e_WrongThingu_initu : PySem.W.codeIn K (.ref cda_WrongThingu_initu) "WrongThing.__init__" = true)
    (ot_WrongThingu_initu : PySem.W.typeIn K (.ref f_WrongThingu_initu) = some (.type "function"))
    (u1_WrongThingu_initu : K.lookup cda_WrongThingu_initu = some ⟨ucl_WrongThingu_initu, udd_WrongThingu_initu, .fields uvs_WrongThingu_initu, ucs_WrongThingu_initu⟩)
    (u2_WrongThingu_initu : uvs_WrongThingu_initu[2]? = some (.str ufl_WrongThingu_initu utf_WrongThingu_initu))
    (u3_WrongThingu_initu : ((P.main.file : Str) == ufl_WrongThingu_initu) = true)
    (u5_WrongThingu_initu : K.lookup cc_WrongThingu_initu = some ⟨vcl_WrongThingu_initu, vcd_WrongThingu_initu, .cell (some (.ref C_WrongThing)), vcs_WrongThingu_initu⟩)
    (u6_WrongThingu_initu : K.lookup C_WrongThing = some ⟨wcl_WrongThingu_initu, wcd_WrongThingu_initu, .cls wdt_WrongThingu_initu, wsl_WrongThingu_initu⟩)
    : ∃ a : Ad, Tx P K mg a ∧ a.f_law = f_law ∧ ∀ (s : Shared) (u : Value), BindsTo s a.d_law ⟨[u], []⟩ [("script", u)] := by
  refine ⟨⟨C_Book, C_Keeps, C_Sending, f_is_listed, (PySem.W.fnOf "is_listed" "is_listed" (defArgs s_is_listed) (defBody s_is_listed) (defScope s_is_listed) .none kV_is_listed dc_is_listed pm_is_listed an_is_listed cd_is_listed ct_is_listed), f_is_signs, (PySem.W.fnOf "is_signs" "is_signs" (defArgs s_is_signs) (defBody s_is_signs) (defScope s_is_signs) .none kV_is_signs dc_is_signs pm_is_signs an_is_signs cd_is_signs ct_is_signs), f_check_signs, (PySem.W.fnOf "check_signs" "check_signs" (defArgs s_check_signs) (defBody s_check_signs) (defScope s_check_signs) .none kV_check_signs dc_check_signs pm_check_signs an_check_signs cd_check_signs ct_check_signs), f_is_text, (PySem.W.fnOf "is_text" "is_text" (defArgs s_is_text) (defBody s_is_text) (defScope s_is_text) .none kV_is_text dc_is_text pm_is_text an_is_text cd_is_text ct_is_text), f_check_text, (PySem.W.fnOf "check_text" "check_text" (defArgs s_check_text) (defBody s_check_text) (defScope s_check_text) .none kV_check_text dc_check_text pm_check_text an_check_text cd_check_text ct_check_text), f_text_key, (PySem.W.fnOf "text_key" "text_key" (defArgs s_text_key) (defBody s_text_key) (defScope s_text_key) .none kV_text_key dc_text_key pm_text_key an_text_key cd_text_key ct_text_key), f_first_rules, (PySem.W.fnOf "first_rules" "first_rules" (defArgs s_first_rules) (defBody s_first_rules) (defScope s_first_rules) .none kV_first_rules dc_first_rules pm_first_rules an_first_rules cd_first_rules ct_first_rules), f_longest_left, (PySem.W.fnOf "longest_left" "longest_left" (defArgs s_longest_left) (defBody s_longest_left) (defScope s_longest_left) .none kV_longest_left dc_longest_left pm_longest_left an_longest_left cd_longest_left ct_longest_left), f_used_at_end, (PySem.W.fnOf "used_at_end" "used_at_end" (defArgs s_used_at_end) (defBody s_used_at_end) (defScope s_used_at_end) .none kV_used_at_end dc_used_at_end pm_used_at_end an_used_at_end cd_used_at_end ct_used_at_end), f_left_over, (PySem.W.fnOf "left_over" "left_over" (defArgs s_left_over) (defBody s_left_over) (defScope s_left_over) .none kV_left_over dc_left_over pm_left_over an_left_over cd_left_over ct_left_over), f_overlap_rows, (PySem.W.fnOf "overlap_rows" "overlap_rows" (defArgs s_overlap_rows) (defBody s_overlap_rows) (defScope s_overlap_rows) .none kV_overlap_rows dc_overlap_rows pm_overlap_rows an_overlap_rows cd_overlap_rows ct_overlap_rows), f_both_results, (PySem.W.fnOf "both_results" "both_results" (defArgs s_both_results) (defBody s_both_results) (defScope s_both_results) .none kV_both_results dc_both_results pm_both_results an_both_results cd_both_results ct_both_results), f_quarrel_of, (PySem.W.fnOf "quarrel_of" "quarrel_of" (defArgs s_quarrel_of) (defBody s_quarrel_of) (defScope s_quarrel_of) .none kV_quarrel_of dc_quarrel_of pm_quarrel_of an_quarrel_of cd_quarrel_of ct_quarrel_of), f_end_moves, (PySem.W.fnOf "end_moves" "end_moves" (defArgs s_end_moves) (defBody s_end_moves) (defScope s_end_moves) .none kV_end_moves dc_end_moves pm_end_moves an_end_moves cd_end_moves ct_end_moves), f_kept_tail, (PySem.W.fnOf "kept_tail" "kept_tail" (defArgs s_kept_tail) (defBody s_kept_tail) (defScope s_kept_tail) .none kV_kept_tail dc_kept_tail pm_kept_tail an_kept_tail cd_kept_tail ct_kept_tail), f_is_rule, (PySem.W.fnOf "is_rule" "is_rule" (defArgs s_is_rule) (defBody s_is_rule) (defScope s_is_rule) .none kV_is_rule dc_is_rule pm_is_rule an_is_rule cd_is_rule ct_is_rule), f_checked_rules, (PySem.W.fnOf "checked_rules" "checked_rules" (defArgs s_checked_rules) (defBody s_checked_rules) (defScope s_checked_rules) .none kV_checked_rules dc_checked_rules pm_checked_rules an_checked_rules cd_checked_rules ct_checked_rules), f_Booku_initu, (PySem.W.fnOf "__init__" "Book.__init__" (defArgs s_Booku_initu) (defBody s_Booku_initu) (defScope s_Booku_initu) .none kV_Booku_initu dc_Booku_initu pm_Booku_initu an_Booku_initu cd_Booku_initu ct_Booku_initu), f_Booku_callu, (PySem.W.fnOf "__call__" "Book.__call__" (defArgs s_Booku_callu) (defBody s_Booku_callu) (defScope s_Booku_callu) .none kV_Booku_callu dc_Booku_callu pm_Booku_callu an_Booku_callu cd_Booku_callu ct_Booku_callu), f_rest_of, (PySem.W.fnOf "rest_of" "rest_of" (defArgs s_rest_of) (defBody s_rest_of) (defScope s_rest_of) .none kV_rest_of dc_rest_of pm_rest_of an_rest_of cd_rest_of ct_rest_of), f_check_settled, (PySem.W.fnOf "check_settled" "check_settled" (defArgs s_check_settled) (defBody s_check_settled) (defScope s_check_settled) .none kV_check_settled dc_check_settled pm_check_settled an_check_settled cd_check_settled ct_check_settled), f__law_source, (PySem.W.fnOf "_law_source" "_law_source" (defArgs s__law_source) (defBody s__law_source) (defScope s__law_source) .none kV__law_source dc__law_source pm__law_source an__law_source cd__law_source ct__law_source), f__law_pick, (PySem.W.fnOf "_law_pick" "_law_pick" (defArgs s__law_pick) (defBody s__law_pick) (defScope s__law_pick) .none kV__law_pick dc__law_pick pm__law_pick an__law_pick cd__law_pick ct__law_pick), f__law_signs, (PySem.W.fnOf "_law_signs" "_law_signs" (defArgs s__law_signs) (defBody s__law_signs) (defScope s__law_signs) .none kV__law_signs dc__law_signs pm__law_signs an__law_signs cd__law_signs ct__law_signs), f__law_text, (PySem.W.fnOf "_law_text" "_law_text" (defArgs s__law_text) (defBody s__law_text) (defScope s__law_text) .none kV__law_text dc__law_text pm__law_text an__law_text cd__law_text ct__law_text), f__law_key, (PySem.W.fnOf "_law_key" "_law_key" (defArgs s__law_key) (defBody s__law_key) (defScope s__law_key) .none kV__law_key dc__law_key pm__law_key an__law_key cd__law_key ct__law_key), f__law_left, (PySem.W.fnOf "_law_left" "_law_left" (defArgs s__law_left) (defBody s__law_left) (defScope s__law_left) .none kV__law_left dc__law_left pm__law_left an__law_left cd__law_left ct__law_left), f__law_quarrel, (PySem.W.fnOf "_law_quarrel" "_law_quarrel" (defArgs s__law_quarrel) (defBody s__law_quarrel) (defScope s__law_quarrel) .none kV__law_quarrel dc__law_quarrel pm__law_quarrel an__law_quarrel cd__law_quarrel ct__law_quarrel), f__law_rule, (PySem.W.fnOf "_law_rule" "_law_rule" (defArgs s__law_rule) (defBody s__law_rule) (defScope s__law_rule) .none kV__law_rule dc__law_rule pm__law_rule an__law_rule cd__law_rule ct__law_rule), f__law_grown, (PySem.W.fnOf "_law_grown" "_law_grown" (defArgs s__law_grown) (defBody s__law_grown) (defScope s__law_grown) .none kV__law_grown dc__law_grown pm__law_grown an__law_grown cd__law_grown ct__law_grown), f__law_table_rules, (PySem.W.fnOf "_law_table_rules" "_law_table_rules" (defArgs s__law_table_rules) (defBody s__law_table_rules) (defScope s__law_table_rules) .none kV__law_table_rules dc__law_table_rules pm__law_table_rules an__law_table_rules cd__law_table_rules ct__law_table_rules), f__law_book, (PySem.W.fnOf "_law_book" "_law_book" (defArgs s__law_book) (defBody s__law_book) (defScope s__law_book) .none kV__law_book dc__law_book pm__law_book an__law_book cd__law_book ct__law_book), f__law_known, (PySem.W.fnOf "_law_known" "_law_known" (defArgs s__law_known) (defBody s__law_known) (defScope s__law_known) .none kV__law_known dc__law_known pm__law_known an__law_known cd__law_known ct__law_known), f__law_some, (PySem.W.fnOf "_law_some" "_law_some" (defArgs s__law_some) (defBody s__law_some) (defScope s__law_some) .none kV__law_some dc__law_some pm__law_some an__law_some cd__law_some ct__law_some), f_law, (PySem.W.fnOf "law" "law" (defArgs s_law) (defBody s_law) (defScope s_law) .none kV_law dc_law pm_law an_law cd_law ct_law), f_Booku_equ, (PySem.W.fnOf "__eq__" "Book.__eq__" (defArgs s_Booku_equ) (defBody s_Booku_equ) (defScope s_Booku_equ) .none kV_Booku_equ dc_Booku_equ pm_Booku_equ an_Booku_equ cd_Booku_equ ct_Booku_equ), f_Keepsu_initu, (PySem.W.fnOf "__init__" "Keeps.__init__" (defArgs s_Keepsu_initu) (defBody s_Keepsu_initu) (defScope s_Keepsu_initu) .none kV_Keepsu_initu dc_Keepsu_initu pm_Keepsu_initu an_Keepsu_initu cd_Keepsu_initu ct_Keepsu_initu), f_Keepsu_boolu, (PySem.W.fnOf "__bool__" "Keeps.__bool__" (defArgs s_Keepsu_boolu) (defBody s_Keepsu_boolu) (defScope s_Keepsu_boolu) .none kV_Keepsu_boolu dc_Keepsu_boolu pm_Keepsu_boolu an_Keepsu_boolu cd_Keepsu_boolu ct_Keepsu_boolu), f_checked_images, (PySem.W.fnOf "checked_images" "checked_images" (defArgs s_checked_images) (defBody s_checked_images) (defScope s_checked_images) .none kV_checked_images dc_checked_images pm_checked_images an_checked_images cd_checked_images ct_checked_images), f_image_end, (PySem.W.fnOf "image_end" "image_end" (defArgs s_image_end) (defBody s_image_end) (defScope s_image_end) .none kV_image_end dc_image_end pm_image_end an_image_end cd_image_end ct_image_end), f_Sendingu_initu, (PySem.W.fnOf "__init__" "Sending.__init__" (defArgs s_Sendingu_initu) (defBody s_Sendingu_initu) (defScope s_Sendingu_initu) .none kV_Sendingu_initu dc_Sendingu_initu pm_Sendingu_initu an_Sendingu_initu cd_Sendingu_initu ct_Sendingu_initu), f_Sendingu_equ, (PySem.W.fnOf "__eq__" "Sending.__eq__" (defArgs s_Sendingu_equ) (defBody s_Sendingu_equ) (defScope s_Sendingu_equ) .none kV_Sendingu_equ dc_Sendingu_equ pm_Sendingu_equ an_Sendingu_equ cd_Sendingu_equ ct_Sendingu_equ), f_Sendingu_callu, (PySem.W.fnOf "__call__" "Sending.__call__" (defArgs s_Sendingu_callu) (defBody s_Sendingu_callu) (defScope s_Sendingu_callu) .none kV_Sendingu_callu dc_Sendingu_callu pm_Sendingu_callu an_Sendingu_callu cd_Sendingu_callu ct_Sendingu_callu), f_Sending_keeps, (PySem.W.fnOf "keeps" "Sending.keeps" (defArgs s_Sending_keeps) (defBody s_Sending_keeps) (defScope s_Sending_keeps) .none kV_Sending_keeps dc_Sending_keeps pm_Sending_keeps an_Sending_keeps cd_Sending_keeps ct_Sending_keeps), f__law_image, (PySem.W.fnOf "_law_image" "_law_image" (defArgs s__law_image) (defBody s__law_image) (defScope s__law_image) .none kV__law_image dc__law_image pm__law_image an__law_image cd__law_image ct__law_image), f__law_refused, (PySem.W.fnOf "_law_refused" "_law_refused" (defArgs s__law_refused) (defBody s__law_refused) (defScope s__law_refused) .none kV__law_refused dc__law_refused pm__law_refused an__law_refused cd__law_refused ct__law_refused), t_LETTERS, t_LONGEST_TEXT, t_MOST_RULES, t_LONGEST_LEFT, C_BadImage, C_BadText, C_WrongItem, C_WrongThing, f_WrongItemu_initu, (PySem.W.fnX "__init__" "WrongItem.__init__" (defArgs s_WrongItemu_initu) (defBody s_WrongItemu_initu) (defScope s_WrongItemu_initu) [("__class__", cc_WrongItemu_initu)] .none kV_WrongItemu_initu dc_WrongItemu_initu pm_WrongItemu_initu an_WrongItemu_initu (.ref cda_WrongItemu_initu) ct_WrongItemu_initu), cc_WrongItemu_initu, cda_WrongItemu_initu, f_WrongThingu_initu, (PySem.W.fnX "__init__" "WrongThing.__init__" (defArgs s_WrongThingu_initu) (defBody s_WrongThingu_initu) (defScope s_WrongThingu_initu) [("__class__", cc_WrongThingu_initu)] .none kV_WrongThingu_initu dc_WrongThingu_initu pm_WrongThingu_initu an_WrongThingu_initu (.ref cda_WrongThingu_initu) ct_WrongThingu_initu), cc_WrongThingu_initu, cda_WrongThingu_initu⟩, ?_, rfl, fun s v => .of_eq rfl⟩
  exact ⟨PySem.W.mg_none_of X G n_abs,
    PySem.W.mg_none_of X G n_any,
    PySem.W.mg_none_of X G n_bool,
    PySem.W.mg_none_of X G n_int,
    PySem.W.mg_none_of X G n_isinstance,
    PySem.W.mg_none_of X G n_len,
    PySem.W.mg_none_of X G n_list,
    PySem.W.mg_none_of X G n_max,
    PySem.W.mg_none_of X G n_min,
    PySem.W.mg_none_of X G n_range,
    PySem.W.mg_none_of X G n_repr,
    PySem.W.mg_none_of X G n_str,
    PySem.W.mg_none_of X G n_tuple,
    PySem.W.mg_of X G c_LETTERS,
    PySem.W.mg_of X G c_LONGEST_TEXT,
    PySem.W.mg_of X G c_MOST_RULES,
    PySem.W.mg_of X G c_LONGEST_LEFT,
    PySem.W.mg_of X G a_is_listed,
    k_is_listed,
    fun_mk (st := s_is_listed) l_is_listed e_is_listed k_is_listed,
    (fun_mk (st := s_is_listed) l_is_listed e_is_listed k_is_listed).binds (ps := ["thing"]) fun _ _ _ _ _ _ us hl => match us, hl with | [_], _ => rfl,
    PySem.W.mg_of X G a_is_signs,
    k_is_signs,
    fun_mk (st := s_is_signs) l_is_signs e_is_signs k_is_signs,
    (fun_mk (st := s_is_signs) l_is_signs e_is_signs k_is_signs).binds (ps := ["thing"]) fun _ _ _ _ _ _ us hl => match us, hl with | [_], _ => rfl,
    PySem.W.mg_of X G a_check_signs,
    k_check_signs,
    fun_mk (st := s_check_signs) l_check_signs e_check_signs k_check_signs,
    (fun_mk (st := s_check_signs) l_check_signs e_check_signs k_check_signs).binds (ps := ["thing"]) fun _ _ _ _ _ _ us hl => match us, hl with | [_], _ => rfl,
    PySem.W.mg_of X G a_is_text,
    k_is_text,
    fun_mk (st := s_is_text) l_is_text e_is_text k_is_text,
    (fun_mk (st := s_is_text) l_is_text e_is_text k_is_text).binds (ps := ["signs", "thing", "low", "high"]) fun _ _ _ _ _ _ us hl => match us, hl with | [_, _, _, _], _ => rfl,
    PySem.W.mg_of X G a_check_text,
    k_check_text,
    fun_mk (st := s_check_text) l_check_text e_check_text k_check_text,
    (fun_mk (st := s_check_text) l_check_text e_check_text k_check_text).binds (ps := ["signs", "thing"]) fun _ _ _ _ _ _ us hl => match us, hl with | [_, _], _ => rfl,
    PySem.W.mg_of X G a_text_key,
    k_text_key,
    fun_mk (st := s_text_key) l_text_key e_text_key k_text_key,
    (fun_mk (st := s_text_key) l_text_key e_text_key k_text_key).binds (ps := ["text"]) fun _ _ _ _ _ _ us hl => match us, hl with | [_], _ => rfl,
    PySem.W.mg_of X G a_first_rules,
    k_first_rules,
    fun_mk (st := s_first_rules) l_first_rules e_first_rules k_first_rules,
    (fun_mk (st := s_first_rules) l_first_rules e_first_rules k_first_rules).binds (ps := ["rules"]) fun _ _ _ _ _ _ us hl => match us, hl with | [_], _ => rfl,
    PySem.W.mg_of X G a_longest_left,
    k_longest_left,
    fun_mk (st := s_longest_left) l_longest_left e_longest_left k_longest_left,
    (fun_mk (st := s_longest_left) l_longest_left e_longest_left k_longest_left).binds (ps := ["rules"]) fun _ _ _ _ _ _ us hl => match us, hl with | [_], _ => rfl,
    PySem.W.mg_of X G a_used_at_end,
    k_used_at_end,
    fun_mk (st := s_used_at_end) l_used_at_end e_used_at_end k_used_at_end,
    (fun_mk (st := s_used_at_end) l_used_at_end e_used_at_end k_used_at_end).binds (ps := ["lefts", "longest", "pile"]) fun _ _ _ _ _ _ us hl => match us, hl with | [_, _, _], _ => rfl,
    PySem.W.mg_of X G a_left_over,
    k_left_over,
    fun_mk (st := s_left_over) l_left_over e_left_over k_left_over,
    (fun_mk (st := s_left_over) l_left_over e_left_over k_left_over).binds (ps := ["lefts", "longest", "text"]) fun _ _ _ _ _ _ us hl => match us, hl with | [_, _, _], _ => rfl,
    PySem.W.mg_of X G a_overlap_rows,
    k_overlap_rows,
    fun_mk (st := s_overlap_rows) l_overlap_rows e_overlap_rows k_overlap_rows,
    (fun_mk (st := s_overlap_rows) l_overlap_rows e_overlap_rows k_overlap_rows).binds (ps := ["rules"]) fun _ _ _ _ _ _ us hl => match us, hl with | [_], _ => rfl,
    PySem.W.mg_of X G a_both_results,
    k_both_results,
    fun_mk (st := s_both_results) l_both_results e_both_results k_both_results,
    (fun_mk (st := s_both_results) l_both_results e_both_results k_both_results).binds (ps := ["rules", "overlap"]) fun _ _ _ _ _ _ us hl => match us, hl with | [_, _], _ => rfl,
    PySem.W.mg_of X G a_quarrel_of,
    k_quarrel_of,
    fun_mk (st := s_quarrel_of) l_quarrel_of e_quarrel_of k_quarrel_of,
    (fun_mk (st := s_quarrel_of) l_quarrel_of e_quarrel_of k_quarrel_of).binds (ps := ["rules", "lefts", "longest"]) fun _ _ _ _ _ _ us hl => match us, hl with | [_, _, _], _ => rfl,
    PySem.W.mg_of X G a_end_moves,
    k_end_moves,
    fun_mk (st := s_end_moves) l_end_moves e_end_moves k_end_moves,
    (fun_mk (st := s_end_moves) l_end_moves e_end_moves k_end_moves).binds (ps := ["signs", "rules"]) fun _ _ _ _ _ _ us hl => match us, hl with | [_, _], _ => rfl,
    PySem.W.mg_of X G a_kept_tail,
    k_kept_tail,
    fun_mk (st := s_kept_tail) l_kept_tail e_kept_tail k_kept_tail,
    (fun_mk (st := s_kept_tail) l_kept_tail e_kept_tail k_kept_tail).binds (ps := ["lefts", "longest", "text"]) fun _ _ _ _ _ _ us hl => match us, hl with | [_, _, _], _ => rfl,
    PySem.W.mg_of X G a_is_rule,
    k_is_rule,
    fun_mk (st := s_is_rule) l_is_rule e_is_rule k_is_rule,
    (fun_mk (st := s_is_rule) l_is_rule e_is_rule k_is_rule).binds (ps := ["signs", "thing"]) fun _ _ _ _ _ _ us hl => match us, hl with | [_, _], _ => rfl,
    PySem.W.mg_of X G a_checked_rules,
    k_checked_rules,
    fun_mk (st := s_checked_rules) l_checked_rules e_checked_rules k_checked_rules,
    (fun_mk (st := s_checked_rules) l_checked_rules e_checked_rules k_checked_rules).binds (ps := ["signs", "thing"]) fun _ _ _ _ _ _ us hl => match us, hl with | [_, _], _ => rfl,
    k_Booku_initu,
    fun_mk (st := s_Booku_initu) l_Booku_initu e_Booku_initu k_Booku_initu,
    (fun_mk (st := s_Booku_initu) l_Booku_initu e_Booku_initu k_Booku_initu).binds (ps := ["self", "signs", "rules"]) fun _ _ _ _ _ _ us hl => match us, hl with | [_, _, _], _ => rfl,
    k_Booku_callu,
    fun_mk (st := s_Booku_callu) l_Booku_callu e_Booku_callu k_Booku_callu,
    (fun_mk (st := s_Booku_callu) l_Booku_callu e_Booku_callu k_Booku_callu).binds (ps := ["self", "text"]) fun _ _ _ _ _ _ us hl => match us, hl with | [_, _], _ => rfl,
    PySem.W.mg_of X G a_rest_of,
    k_rest_of,
    fun_mk (st := s_rest_of) l_rest_of e_rest_of k_rest_of,
    (fun_mk (st := s_rest_of) l_rest_of e_rest_of k_rest_of).binds (ps := ["book", "text"]) fun _ _ _ _ _ _ us hl => match us, hl with | [_, _], _ => rfl,
    PySem.W.mg_of X G a_check_settled,
    k_check_settled,
    fun_mk (st := s_check_settled) l_check_settled e_check_settled k_check_settled,
    (fun_mk (st := s_check_settled) l_check_settled e_check_settled k_check_settled).binds (ps := ["book"]) fun _ _ _ _ _ _ us hl => match us, hl with | [_], _ => rfl,
    PySem.W.mg_of X G a__law_source,
    k__law_source,
    fun_mk (st := s__law_source) l__law_source e__law_source k__law_source,
    (fun_mk (st := s__law_source) l__law_source e__law_source k__law_source).binds (ps := ["script", "place"]) fun _ _ _ _ _ _ us hl => match us, hl with | [_, _], _ => rfl,
    PySem.W.mg_of X G a__law_pick,
    k__law_pick,
    fun_mk (st := s__law_pick) l__law_pick e__law_pick k__law_pick,
    (fun_mk (st := s__law_pick) l__law_pick e__law_pick k__law_pick).binds (ps := ["source", "many"]) fun _ _ _ _ _ _ us hl => match us, hl with | [_, _], _ => rfl,
    PySem.W.mg_of X G a__law_signs,
    k__law_signs,
    fun_mk (st := s__law_signs) l__law_signs e__law_signs k__law_signs,
    (fun_mk (st := s__law_signs) l__law_signs e__law_signs k__law_signs).binds (ps := ["source"]) fun _ _ _ _ _ _ us hl => match us, hl with | [_], _ => rfl,
    PySem.W.mg_of X G a__law_text,
    k__law_text,
    fun_mk (st := s__law_text) l__law_text e__law_text k__law_text,
    (fun_mk (st := s__law_text) l__law_text e__law_text k__law_text).binds (ps := ["source", "signs", "most"]) fun _ _ _ _ _ _ us hl => match us, hl with | [_, _, _], _ => rfl,
    PySem.W.mg_of X G a__law_key,
    k__law_key,
    fun_mk (st := s__law_key) l__law_key e__law_key k__law_key,
    (fun_mk (st := s__law_key) l__law_key e__law_key k__law_key).binds (ps := ["text"]) fun _ _ _ _ _ _ us hl => match us, hl with | [_], _ => rfl,
    PySem.W.mg_of X G a__law_left,
    k__law_left,
    fun_mk (st := s__law_left) l__law_left e__law_left k__law_left,
    (fun_mk (st := s__law_left) l__law_left e__law_left k__law_left).binds (ps := ["rules", "text"]) fun _ _ _ _ _ _ us hl => match us, hl with | [_, _], _ => rfl,
    PySem.W.mg_of X G a__law_quarrel,
    k__law_quarrel,
    fun_mk (st := s__law_quarrel) l__law_quarrel e__law_quarrel k__law_quarrel,
    (fun_mk (st := s__law_quarrel) l__law_quarrel e__law_quarrel k__law_quarrel).binds (ps := ["rules"]) fun _ _ _ _ _ _ us hl => match us, hl with | [_], _ => rfl,
    PySem.W.mg_of X G a__law_rule,
    k__law_rule,
    fun_mk (st := s__law_rule) l__law_rule e__law_rule k__law_rule,
    (fun_mk (st := s__law_rule) l__law_rule e__law_rule k__law_rule).binds (ps := ["source", "signs", "longest"]) fun _ _ _ _ _ _ us hl => match us, hl with | [_, _, _], _ => rfl,
    PySem.W.mg_of X G a__law_grown,
    k__law_grown,
    fun_mk (st := s__law_grown) l__law_grown e__law_grown k__law_grown,
    (fun_mk (st := s__law_grown) l__law_grown e__law_grown k__law_grown).binds (ps := ["source", "signs", "most", "longest"]) fun _ _ _ _ _ _ us hl => match us, hl with | [_, _, _, _], _ => rfl,
    PySem.W.mg_of X G a__law_table_rules,
    k__law_table_rules,
    fun_mk (st := s__law_table_rules) l__law_table_rules e__law_table_rules k__law_table_rules,
    (fun_mk (st := s__law_table_rules) l__law_table_rules e__law_table_rules k__law_table_rules).binds (ps := ["source", "signs"]) fun _ _ _ _ _ _ us hl => match us, hl with | [_, _], _ => rfl,
    PySem.W.mg_of X G a__law_book,
    k__law_book,
    fun_mk (st := s__law_book) l__law_book e__law_book k__law_book,
    (fun_mk (st := s__law_book) l__law_book e__law_book k__law_book).binds (ps := ["source", "signs", "most"]) fun _ _ _ _ _ _ us hl => match us, hl with | [_, _, _], _ => rfl,
    PySem.W.mg_of X G a__law_known,
    k__law_known,
    fun_mk (st := s__law_known) l__law_known e__law_known k__law_known,
    (fun_mk (st := s__law_known) l__law_known e__law_known k__law_known).binds (ps := ["source", "a", "b"]) fun _ _ _ _ _ _ us hl => match us, hl with | [_, _, _], _ => rfl,
    PySem.W.mg_of X G a__law_some,
    k__law_some,
    fun_mk (st := s__law_some) l__law_some e__law_some k__law_some,
    (fun_mk (st := s__law_some) l__law_some e__law_some k__law_some).binds (ps := ["draws", "rules", "text"]) fun _ _ _ _ _ _ us hl => match us, hl with | [_, _, _], _ => rfl,
    PySem.W.mg_of X G a_law,
    k_law,
    fun_mk (st := s_law) l_law e_law k_law,
    (fun_mk (st := s_law) l_law e_law k_law).binds (ps := ["script"]) fun _ _ _ _ _ _ us hl => match us, hl with | [_], _ => rfl,
    k_Booku_equ,
    fun_mk (st := s_Booku_equ) l_Booku_equ e_Booku_equ k_Booku_equ,
    (fun_mk (st := s_Booku_equ) l_Booku_equ e_Booku_equ k_Booku_equ).binds (ps := ["self", "other"]) fun _ _ _ _ _ _ us hl => match us, hl with | [_, _], _ => rfl,
    k_Keepsu_initu,
    fun_mk (st := s_Keepsu_initu) l_Keepsu_initu e_Keepsu_initu k_Keepsu_initu,
    (fun_mk (st := s_Keepsu_initu) l_Keepsu_initu e_Keepsu_initu k_Keepsu_initu).binds (ps := ["self", "number"]) fun _ _ _ _ _ _ us hl => match us, hl with | [_, _], _ => rfl,
    k_Keepsu_boolu,
    fun_mk (st := s_Keepsu_boolu) l_Keepsu_boolu e_Keepsu_boolu k_Keepsu_boolu,
    (fun_mk (st := s_Keepsu_boolu) l_Keepsu_boolu e_Keepsu_boolu k_Keepsu_boolu).binds (ps := ["self"]) fun _ _ _ _ _ _ us hl => match us, hl with | [_], _ => rfl,
    PySem.W.mg_of X G a_checked_images,
    k_checked_images,
    fun_mk (st := s_checked_images) l_checked_images e_checked_images k_checked_images,
    (fun_mk (st := s_checked_images) l_checked_images e_checked_images k_checked_images).binds (ps := ["one", "other", "images"]) fun _ _ _ _ _ _ us hl => match us, hl with | [_, _, _], _ => rfl,
    PySem.W.mg_of X G a_image_end,
    k_image_end,
    fun_mk (st := s_image_end) l_image_end e_image_end k_image_end,
    (fun_mk (st := s_image_end) l_image_end e_image_end k_image_end).binds (ps := ["sending", "text"]) fun _ _ _ _ _ _ us hl => match us, hl with | [_, _], _ => rfl,
    k_Sendingu_initu,
    fun_mk (st := s_Sendingu_initu) l_Sendingu_initu e_Sendingu_initu k_Sendingu_initu,
    (fun_mk (st := s_Sendingu_initu) l_Sendingu_initu e_Sendingu_initu k_Sendingu_initu).binds (ps := ["self", "one", "other", "images"]) fun _ _ _ _ _ _ us hl => match us, hl with | [_, _, _, _], _ => rfl,
    k_Sendingu_equ,
    fun_mk (st := s_Sendingu_equ) l_Sendingu_equ e_Sendingu_equ k_Sendingu_equ,
    (fun_mk (st := s_Sendingu_equ) l_Sendingu_equ e_Sendingu_equ k_Sendingu_equ).binds (ps := ["self", "other"]) fun _ _ _ _ _ _ us hl => match us, hl with | [_, _], _ => rfl,
    k_Sendingu_callu,
    fun_mk (st := s_Sendingu_callu) l_Sendingu_callu e_Sendingu_callu k_Sendingu_callu,
    (fun_mk (st := s_Sendingu_callu) l_Sendingu_callu e_Sendingu_callu k_Sendingu_callu).binds (ps := ["self", "text"]) fun _ _ _ _ _ _ us hl => match us, hl with | [_, _], _ => rfl,
    k_Sending_keeps,
    fun_mk (st := s_Sending_keeps) l_Sending_keeps e_Sending_keeps k_Sending_keeps,
    (fun_mk (st := s_Sending_keeps) l_Sending_keeps e_Sending_keeps k_Sending_keeps).binds (ps := ["self"]) fun _ _ _ _ _ _ us hl => match us, hl with | [_], _ => rfl,
    PySem.W.mg_of X G a__law_image,
    k__law_image,
    fun_mk (st := s__law_image) l__law_image e__law_image k__law_image,
    (fun_mk (st := s__law_image) l__law_image e__law_image k__law_image).binds (ps := ["rules", "images", "signs", "text"]) fun _ _ _ _ _ _ us hl => match us, hl with | [_, _, _, _], _ => rfl,
    PySem.W.mg_of X G a__law_refused,
    k__law_refused,
    fun_mk (st := s__law_refused) l__law_refused e__law_refused k__law_refused,
    (fun_mk (st := s__law_refused) l__law_refused e__law_refused k__law_refused).binds (ps := ["one", "other", "images"]) fun _ _ _ _ _ _ us hl => match us, hl with | [_, _, _], _ => rfl,
    PySem.W.mg_of X G g_Book,
    ⟨pg_Book, hd_Book, po_Book, sa_Book⟩,
    ⟨mk_Book, a_Booku_initu, if_Book, kc_Book⟩,
    ⟨a_Booku_callu, ci_Book, cf_Book⟩,
    x_Book_signs,
    x_Book_rules,
    x_Book__lefts,
    x_Book__longest,
    x_Book__quarrel,
    x_Book__moves,
    PySem.W.mg_of X G g_Keeps,
    ⟨pg_Keeps, hd_Keeps, po_Keeps, sa_Keeps⟩,
    ⟨mk_Keeps, a_Keepsu_initu, if_Keeps, kc_Keeps⟩,
    x_Keeps_holds,
    x_Keeps_number,
    PySem.W.mg_of X G g_Sending,
    ⟨pg_Sending, hd_Sending, po_Sending, sa_Sending⟩,
    ⟨mk_Sending, a_Sendingu_initu, if_Sending, kc_Sending⟩,
    ⟨a_Sendingu_callu, ci_Sending, cf_Sending⟩,
    x_Sending_one,
    x_Sending_other,
    x_Sending_images,
    ⟨a_Booku_equ, ps_Booku_equ⟩,
    ⟨a_Keepsu_boolu, ps_Keepsu_boolu⟩,
    ⟨a_Sendingu_equ, ps_Sendingu_equ⟩,
    ⟨a_Sending_keeps, ps_Sending_keeps, k_Sending_keeps⟩,
    nf_Sending,
    ⟨ic1_Book, ic2, ic3, ic4_Book⟩,
    it_Book,
    ⟨ic1_Sending, ic2, ic3, ic4_Sending⟩,
    it_Sending,
    it_BadImage_WrongItem,
    PySem.W.mg_of X G g_BadImage,
    PySem.W.mg_of X G g_BadText,
    PySem.W.mg_of X G g_WrongItem,
    PySem.W.mg_of X G g_WrongThing,
    ⟨⟨_, _, _, _, _, _, _, _, _, _, _, _, _, _, _, oc_BadImage, ov_BadImage⟩, os_BadImage, ob_BadImage, oy_BadImage, ok_BadImage⟩,
    ⟨xg1_BadImage, xg2_BadImage, ob_BadImage, xg4_BadImage⟩,
    xn_BadImage_place,
    oi_BadImage,
    ⟨sx1_BadImage, sx2_BadImage, sx3_BadImage⟩,
    xm_BadImage_BadImage,
    xm_BadImage_BadText,
    ⟨⟨_, _, _, _, _, _, _, _, _, _, _, _, _, _, _, oc_BadText, ov_BadText⟩, os_BadText, ob_BadText, oy_BadText, ok_BadText⟩,
    ⟨xg1_BadText, xg2_BadText, ob_BadText, xg4_BadText⟩,
    xn_BadText_thing,
    oi_BadText,
    ⟨sx1_BadText, sx2_BadText, sx3_BadText⟩,
    xm_BadText_BadImage,
    xm_BadText_BadText,
    funS_mk (st := s_WrongItemu_initu) l_WrongItemu_initu e_WrongItemu_initu,
    (funS_mk (st := s_WrongItemu_initu) l_WrongItemu_initu e_WrongItemu_initu).binds (ps := ["self", "place"]) fun _ _ _ _ _ us hl => match us, hl with | [_, _], _ => rfl,
    ot_WrongItemu_initu,
    ⟨⟨_, _, _, _, _, _, u1_WrongItemu_initu, u2_WrongItemu_initu, u3_WrongItemu_initu⟩, u4, ⟨_, _, _, u5_WrongItemu_initu⟩, ⟨_, _, _, _, u6_WrongItemu_initu⟩, PySem.W.mg_none_of X G u7, u8⟩,
    funS_mk (st := s_WrongThingu_initu) l_WrongThingu_initu e_WrongThingu_initu,
    (funS_mk (st := s_WrongThingu_initu) l_WrongThingu_initu e_WrongThingu_initu).binds (ps := ["self", "thing"]) fun _ _ _ _ _ us hl => match us, hl with | [_, _], _ => rfl,
    ot_WrongThingu_initu,
    ⟨⟨_, _, _, _, _, _, u1_WrongThingu_initu, u2_WrongThingu_initu, u3_WrongThingu_initu⟩, u4, ⟨_, _, _, u5_WrongThingu_initu⟩, ⟨_, _, _, _, u6_WrongThingu_initu⟩, PySem.W.mg_none_of X G u7, u8⟩⟩
end K60

end

set_option maxHeartbeats 4000000
namespace K60
section
open PySem L2 BV WM
local macro_rules | `(tactic| walk_at "v") => `(tactic| first
  | ((with_reducible refine' BV.g_var ?hh ?_); (case hh => rfl))
  | ((with_reducible refine' BV.g_own ?hh ?_); (case hh => rfl))
  | ((with_reducible refine' BV.g_ownD ?hh ?_); (case hh => rfl))
  | with_reducible refine BV.g_int ?_
  | with_reducible refine BV.g_str ?_
  | with_reducible refine BV.g_bl ?_
  | with_reducible refine BV.g_non ?_
  | (with_reducible refine BV.g_oth ?_))
local macro_rules | `(tactic| walk_at "o") => `(tactic| first
  | with_reducible refine BV.o2_I0 ?_
  | with_reducible refine BV.o2_I0b ?_
  | ((with_reducible refine BV.o2_I ?hc ?_); (case hc => first | decide | omega | exact Or.inl ⟨by omega, by omega⟩ | exact Or.inr ⟨by omega, by omega⟩ | exact Or.inl (BV.fm64 (by decide) (by decide)) | (show (_ : Int) ≠ (0 : Int); omega) | (show (0 : Int) ≤ _; omega) | (constructor <;> first | decide | omega)))
  | with_reducible refine BV.o2_I ?_ ?_
  | with_reducible refine BV.o1_U ?_
  | ((with_reducible refine BV.o2_addS ?hc ?_); (case hc => first | omega | (simp only [List.length_append, List.length_cons, List.length_nil]; omega) | (refine Nat.le_trans (Nat.add_le_add (BV.cut_le _ _ _) (Nat.le_refl _)) ?_; (try simp only [List.length_append, List.length_cons, List.length_nil]); omega) | (refine Nat.le_trans (Nat.add_le_add (Nat.le_refl _) (BV.cut_le _ _ _)) ?_; (try simp only [List.length_append, List.length_cons, List.length_nil]); omega) | (refine Nat.le_trans (Nat.add_le_add (BV.cut_le _ _ _) (BV.cut_le _ _ _)) ?_; omega)))
  | with_reducible refine BV.o2_addS ?_ ?_
  | with_reducible refine BV.o2_ltS ?_
  | with_reducible refine BV.o2_geS ?_
  | with_reducible refine BV.o2_inS ?_
  | with_reducible refine BV.o2_sub ?_
  | with_reducible refine BV.o2_eqI ?_
  | with_reducible refine BV.o2_neI ?_
  | with_reducible refine BV.o2_eqS ?_
  | with_reducible refine BV.o2_neS ?_
  | with_reducible refine BV.o2_eqB ?_
  | with_reducible refine BV.o2_neB ?_
  | with_reducible refine BV.o2_ltKey ?_
  | ((with_reducible refine BV.o2_isN ?hc ?_); (case hc => (intro _ hh; cases hh; done)))
  | ((with_reducible refine' BV.o2_ixL ?hc ?_); (case hc => first | rfl | assumption | exact BV.at_map (by assumption) | exact BV.at_nat (by assumption) | exact BV.at_zero))
  | with_reducible refine BV.o2_ixL ?_ ?_
  | ((with_reducible refine' BV.o2_ixT ?hc ?_); (case hc => first | rfl | assumption | exact BV.at_map (by assumption) | exact BV.at_nat (by assumption) | exact BV.at_zero))
  | with_reducible refine BV.o2_ixT ?_ ?_
  | with_reducible refine BV.o2_ixScr ?_ ?_
  | with_reducible refine BV.o2_ixS ?_ ?_ ?_
  | with_reducible refine BV.o2_cat ?_ ?_
  | with_reducible refine BV.o2_rep ?_ ?_ ?_ ?_
  | ((with_reducible refine BV.oc_len_str ?hc ?_); (case hc => first | omega | (simp only [List.length_append, List.length_cons, List.length_nil]; omega)))
  | with_reducible refine BV.oc_len_str ?_ ?_
  | with_reducible refine BV.oc_len_lst ?_
  | with_reducible refine BV.oc_len_tup ?_
  | with_reducible refine BV.oc_len_scr ?_
  | with_reducible refine BV.oc_int ?_
  | with_reducible refine BV.oc_intB ?_
  | with_reducible refine BV.oc_boolB ?_
  | with_reducible refine BV.oc_abs ?_
  | with_reducible refine BV.oc_max2 ?_
  | with_reducible refine BV.oc_min2 ?_
  | ((with_reducible refine BV.oc_isi_tup (b := true) ?hk ?_); (case hk => decide +kernel))
  | ((with_reducible refine BV.oc_isi_tup (b := false) ?hk ?_); (case hk => decide +kernel))
  | ((with_reducible refine BV.oc_isi_lst (b := true) ?hk ?_); (case hk => decide +kernel))
  | ((with_reducible refine BV.oc_isi_lst (b := false) ?hk ?_); (case hk => decide +kernel))
  | ((with_reducible refine BV.oc_isi_str (b := true) ?hk ?_); (case hk => decide +kernel))
  | ((with_reducible refine BV.oc_isi_str (b := false) ?hk ?_); (case hk => decide +kernel))
  | ((with_reducible refine BV.oc_isi_int (b := true) ?hk ?_); (case hk => decide +kernel))
  | ((with_reducible refine BV.oc_isi_int (b := false) ?hk ?_); (case hk => decide +kernel))
  | ((with_reducible refine BV.oc_isi_bl (b := true) ?hk ?_); (case hk => decide +kernel))
  | ((with_reducible refine BV.oc_isi_bl (b := false) ?hk ?_); (case hk => decide +kernel))
  | ((with_reducible refine BV.oc_isi_non (b := true) ?hk ?_); (case hk => decide +kernel))
  | ((with_reducible refine BV.oc_isi_non (b := false) ?hk ?_); (case hk => decide +kernel))
  | with_reducible refine BV.oc_repr_bl ?_
  | with_reducible refine BV.oc_repr_non ?_
  | with_reducible refine BV.oc_repr_str ?_ ?_ ?_)
local macro_rules | `(tactic| walk_at "g") => `(tactic| first
  | ((with_reducible refine' BV.g_ixO ?hh ?_); (case hh => rfl))
  | ((with_reducible refine' BV.g_srcIx ?hh ?hk (fun zz => ?_)); (case hh => rfl); (case hk => decide))
  | with_reducible refine BV.g_ixL ?_
  | with_reducible refine BV.g_ixT ?_
  | ((with_reducible refine' BV.g_catO ?hh ?_); (case hh => rfl))
  | with_reducible refine BV.g_cat ?_
  | with_reducible refine BV.g_rep ?_
  | with_reducible refine BV.g_op ?_
  | with_reducible refine BV.g_un ?_
  | with_reducible refine BV.ga_cons ?_
  | with_reducible refine BV.ga_nil ?_
  | ((with_reducible refine' BV.g_tupleO ?hh ?_); (case hh => rfl))
  | with_reducible refine BV.g_tuple ?_
  | with_reducible refine BV.g_list ?_
  | with_reducible refine BV.g_cb ?_
  | with_reducible refine BV.g_tup ?_
  | with_reducible refine BV.g_lst ?_
  | with_reducible refine BV.gt_test ?_
  | with_reducible refine BV.gt_B ?_
  | with_reducible refine BV.gt_and ?_
  | with_reducible refine BV.gt_or ?_
  | with_reducible refine BV.gt_not ?_
  | with_reducible refine BV.gt_tr ?_
  | with_reducible refine BV.gt_yes ?_
  | with_reducible refine BV.g_if ?_
  | with_reducible refine BV.g_andV ?_
  | with_reducible refine BV.g_orV ?_
  | with_reducible refine BV.g_notV ?_
  | with_reducible refine BV.g_chain ?_
  | with_reducible refine BV.g_slS ?_
  | ((with_reducible refine' BV.g_slScrV ?hh ?_); (case hh => rfl))
  | with_reducible refine BV.g_slL ?_
  | with_reducible refine BV.g_slT ?_
  | with_reducible refine BV.g_slA ?_
  | with_reducible refine BV.go_no ?_
  | with_reducible refine BV.go_some ?_
  | with_reducible refine BV.g_dget1 ?_
  | with_reducible refine BV.g_dget2 ?_
  | ((with_reducible refine' BV.g_dixO ?hh ?_); (case hh => rfl))
  | with_reducible refine BV.g_dix ?_
  | with_reducible refine BV.g_din ?_
  | with_reducible refine BV.g_dnotin ?_
  | ((with_reducible refine' BV.g_fldI ?cl ?na ?he ?hl ?_); (case he => rfl); (case cl => assumption); (case na => assumption); (case hl => rfl))
  | ((with_reducible refine' BV.g_fld ?cl ?na ?_); (case cl => assumption); (case na => assumption))
  | ((with_reducible refine' BV.e_fld ?hl ?_); (case hl => rfl))
  | with_reducible refine BV.g_ends ?_
  | with_reducible refine BV.g_starts ?_
  | with_reducible refine BV.g_join ?_
  | ((with_reducible refine' BV.g_callS ?hh ?_); (case hh => rfl))
  | with_reducible refine BV.g_call ?_
  | with_reducible refine BV.g_cO ?_
  | with_reducible refine BV.g_make ?_
  | with_reducible refine BV.gi_list ?_
  | with_reducible refine BV.gi_tup ?_
  | with_reducible refine BV.gi_sq ?_
  | with_reducible refine BV.gi_str ?_
  | with_reducible refine BV.gi_rng1 ?_
  | with_reducible refine BV.gi_rng2 ?_
  | with_reducible refine BV.gi_rng3 ?_)
local macro_rules | `(tactic| walk_at "e") => `(tactic| first
  | with_reducible refine BV.e_int ?_
  | with_reducible refine BV.e_bl ?_
  | with_reducible refine BV.e_str ?_
  | with_reducible refine BV.e_tup ?_
  | with_reducible refine BV.e_lst ?_
  | with_reducible refine BV.e_scr ?_
  | with_reducible refine BV.e_dk ?_
  | with_reducible refine BV.e_own ?_
  | with_reducible refine BV.e_obj ?_
  | with_reducible refine BV.e_i1 ?_
  | with_reducible refine BV.e_i2 ?_
  | with_reducible refine BV.e_keyS ?_
  | with_reducible refine BV.e_keyI ?_
  | with_reducible refine BV.e_truL ?_
  | with_reducible refine BV.e_truT ?_
  | with_reducible refine BV.e_truB ?_
  | with_reducible refine BV.e_truN ?_
  | with_reducible refine BV.e_truI ?_
  | ((with_reducible refine BV.e_truS ?hc ?_); (case hc => omega))
  | with_reducible refine BV.e_tl ?_
  | with_reducible refine BV.e_tt ?_
  | ((with_reducible refine BV.c_len ?hc ?_); (case hc => rfl))
  | ((with_reducible refine BV.c_rng ?ha ?hb ?_); (case ha => first | omega | (simp only [List.length_map]; omega)); (case hb => first | omega | (simp only [List.length_map]; omega)))
  | ((with_reducible refine BV.c_rng2 ?ha ?hb ?hc ?hd ?_); (case ha => first | omega | (simp only [List.length_map]; omega)); (case hb => first | omega | (simp only [List.length_map]; omega)); (case hc => first | omega | (simp only [List.length_map]; omega)); (case hd => first | omega | (simp only [List.length_map]; omega)))
  | ((with_reducible refine BV.c_lt6 ?ha ?_); (case ha => first | omega | (simp only [List.length_map, List.length_append, List.length_cons, List.length_nil]; omega)))
  | ((with_reducible refine BV.c_le6 ?ha ?_); (case ha => first | omega | (simp only [List.length_map, List.length_append, List.length_cons, List.length_nil]; omega)))
  | with_reducible refine BV.c_i0 ?_
  | with_reducible refine BV.c_i1 ?_
  | with_reducible refine BV.c_non ?_
  | with_reducible refine BV.c_str ?_
  | with_reducible refine BV.c_tup ?_
  | ((with_reducible refine BV.c_dt ?hc ?_); (case hc => first | omega | assumption | (simp only [List.length_cons, List.length_nil]; omega)))
  | ((with_reducible refine BV.c_df ?hc ?_); (case hc => first | omega | assumption | (simp only [List.length_cons, List.length_nil]; omega)))
  | ((with_reducible refine BV.c_ndt ?hc ?_); (case hc => first | omega | assumption | (simp only [List.length_cons, List.length_nil]; omega)))
  | ((with_reducible refine BV.c_ndf ?hc ?_); (case hc => first | omega | assumption | (simp only [List.length_cons, List.length_nil]; omega)))
  | ((with_reducible refine' BV.c_at0 ?hh ?_); (case hh => rfl))
  | with_reducible refine BV.c_nnon ?_
  | with_reducible refine BV.c_nstr ?_
  | with_reducible refine BV.c_ntup ?_
  | with_reducible refine BV.e_ret ?_
  | with_reducible refine BV.c_nt ?_
  | with_reducible refine BV.c_nf ?_
  | with_reducible refine BV.c_tt ?_
  | with_reducible refine BV.c_ff ?_)
local macro_rules | `(tactic| walk_at "r") => `(tactic| first
  | ((with_reducible show BV.Run _ (List.set _ _ _) _ _ _ _ _); dsimp only [List.set])
  | ((with_reducible show BV.Run _ (BV.startS _ _) _ _ _ _ _); dsimp only [BV.startS, List.map, List.length, List.append, List.replicate, List.cons_append, List.nil_append, Nat.reduceSub, Nat.reduceAdd])
  | with_reducible refine BV.run_seq ?_
  | ((with_reducible refine' BV.run_srcSet ?hh ?hk ?_); (case hh => rfl); (case hk => decide))
  | with_reducible refine BV.run_asgN (BV.gn_dk ?_)
  | with_reducible refine BV.run_asgN (BV.gn_dt ?_)
  | with_reducible refine BV.run_asgN (BV.gn_lst (BV.ga_nil ⟨by decide, ?_⟩))
  | ((with_reducible refine' BV.run_asgN (BV.gn_disp1 ?hv ?_)); (case hv => first | exact fun _ => .int _ | exact fun _ => .bl _))
  | ((with_reducible refine' BV.run_asgN (BV.gn_dispV ?hh ?hv ?_)); (case hh => rfl); (case hv => first | exact fun _ => .int _ | exact fun _ => .bl _))
  | with_reducible refine BV.run_asgN (BV.gn_lst ?_)
  | ((with_reducible refine' BV.run_pop ?hh ?_); (case hh => rfl))
  | with_reducible refine BV.run_src ?_
  | with_reducible refine BV.run_asg ?_
  | with_reducible refine BV.run_asgG ?_
  | with_reducible refine BV.run_if ?_
  | ((with_reducible refine' BV.run_app ?hh ?_); (case hh => rfl))
  | ((with_reducible refine' BV.run_retO ?hh ?_); (case hh => rfl))
  | ((with_reducible refine' BV.run_retOD ?hh ?_); (case hh => rfl))
  | with_reducible refine BV.run_retSrc ?_
  | with_reducible refine BV.run_ret ?_
  | with_reducible refine BV.run_retN ?_
  | with_reducible refine BV.run_next ?_
  | with_reducible refine BV.run_brk ?_
  | with_reducible refine BV.run_cont ?_
  | with_reducible refine BV.run_for ?_
  | ((with_reducible refine' BV.run_dput ?hh ?_); (case hh => rfl))
  | ((with_reducible refine' BV.run_fldI ?cl ?na ?he ?hz ?_); (case he => rfl); (case cl => assumption); (case na => assumption); (case hz => exact of_decide_eq_true rfl))
  | with_reducible refine BV.run_drop ?_
  | with_reducible refine BV.gg_name ?_
  | ((with_reducible refine' BV.gg_tup ?hh ?_); (case hh => rfl))
  | with_reducible refine BV.ggs_nil ?_
  | with_reducible refine BV.ggs_cons ?_
  | ((with_reducible refine' BV.gc_name ?hh ?_); (case hh => decide))
  | ((with_reducible refine' BV.gc_tup ?hh ?_); (case hh => rfl))
  | with_reducible refine BV.gcs_nil ?_
  | with_reducible refine BV.gcs_cons ?_)
local macro_rules | `(tactic| walk_at "s") => `(tactic| first | walk_at "v" | walk_at "o" | walk_at "e" | walk_at "g" | walk_at "r")
local macro_rules | `(tactic| walk_at "start") => `(tactic| (dsimp only [L2.cxOf, L2.Cx.nox, L2.Cx.wish, L2.Cx.blk, BV.startS, List.map, List.length, List.append, List.replicate, List.cons_append, List.nil_append, List.tail, Nat.reduceSub, Nat.reduceAdd, Nat.sub_self, Nat.sub_zero]))
local macro_rules | `(tactic| walk_at "w") => `(tactic| repeat walk_at "s")

section
variable {P : Program} {wd : World} {K : PySem.W.Frag} {mg : Str → Option Value} {base : Heap} {a : Ad}
abbrev ruleD (r : Rl) : Dat := .tup [.str r.1, .str r.2]
abbrev rulesD (rs : List Rl) : Dat := .tup (rs.map ruleD)

def S_text_key : List Dat → (Dat → Prop) → Prop := fun ds R => ∃ s : W, ds = [.str s] ∧ s.length ≤ 100000 ∧ R (.tup [.int (s.length : Int), .str s])
theorem ok_text_key (T : Tx P K mg a) : FnOk P wd K mg base CX0 1 a.f_text_key a.d_text_key ["text"] (spF K S_text_key) :=
  okF T.F_text_key sc_text_key (fun ds R h => by obtain ⟨s, rfl, hs, hR⟩ := h; rfl) fun cdv A outer s H E hr => by
  refine ⟨_, (pss_one (ps_ret (pe_tup (pa_cons (pe_callB (kLen K rfl) (by rfl) T.n_len (by decide +kernel) (pa_cons (pv 0) pa_nil)) (pa_cons (pv 0) pa_nil))))), fun ds R h => ?_⟩
  obtain ⟨s, rfl, hs, hR⟩ := h
  walk_at "start"
  walk_at "w"
  exact hR
theorem ok__law_key (T : Tx P K mg a) : FnOk P wd K mg base CX0 1 a.f__law_key a.d__law_key ["text"] (spF K S_text_key) :=
  okF T.F__law_key sc__law_key (fun ds R h => by obtain ⟨s, rfl, hs, hR⟩ := h; rfl) fun cdv A outer s H E hr => by
  refine ⟨_, (pss_one (ps_ret (pe_tup (pa_cons (pe_callB (kLen K rfl) (by rfl) T.n_len (by decide +kernel) (pa_cons (pv 0) pa_nil)) (pa_cons (pv 0) pa_nil))))), fun ds R h => ?_⟩
  obtain ⟨s, rfl, hs, hR⟩ := h
  walk_at "start"
  walk_at "w"
  exact hR
def S_is_listed : List Dat → (Dat → Prop) → Prop := fun ds R => ∃ x : Dat, ds = [x] ∧ ((((∃ xs, x = .tup xs) ∨ ∃ xs, x = .lst xs) ∧ R (.bl true)) ∨ ((x = .non ∨ ∃ s, x = .str s) ∧ R (.bl false)))
theorem ok_is_listed (T : Tx P K mg a) : FnOk P wd K mg base CX0 1 a.f_is_listed a.d_is_listed ["thing"] (spF K S_is_listed) :=
  okF T.F_is_listed sc_is_listed (fun ds R h => by obtain ⟨x, rfl, hx⟩ := h; rfl) fun cdv A outer s H E hr => by
  refine ⟨_, (pss_one (ps_ret (pe_or (pe_callB (kIsi K rfl) (by rfl) T.n_isinstance (by decide +kernel) (pa_cons (pv 0) (pa_cons (pe_bltn (v := .ty "tuple") (by rfl) T.n_tuple (by decide +kernel) rfl) pa_nil))) (pe_one (pe_callB (kIsi K rfl) (by rfl) T.n_isinstance (by decide +kernel) (pa_cons (pv 0) (pa_cons (pe_bltn (v := .ty "list") (by rfl) T.n_list (by decide +kernel) rfl) pa_nil))))))), fun ds R h => ?_⟩
  obtain ⟨x, rfl, hx⟩ := h
  walk_at "start"
  rcases hx with ⟨⟨xs, rfl⟩ | ⟨xs, rfl⟩, hR⟩ | ⟨rfl | ⟨s, rfl⟩, hR⟩
  · walk_at "w"
    exact hR
  · walk_at "w"
    exact hR
  · walk_at "w"
    exact hR
  · walk_at "w"
    exact hR
def S_first_rules : List Dat → (Dat → Prop) → Prop := fun ds R => ∃ rs : List Rl, ds = [rulesD rs] ∧ rs.length ≤ 1000 ∧ R (.dk (firstR rs))
theorem ok_first_rules (T : Tx P K mg a) : FnOk P wd K mg base CX0 1 a.f_first_rules a.d_first_rules ["rules"] (spF K S_first_rules) :=
  okF T.F_first_rules sc_first_rules (fun ds R h => by obtain ⟨rs, rfl, hs, hR⟩ := h; rfl) fun cdv A outer s H E hr => by
  refine ⟨_, (pss_cons (ps_set (i := 1) sc_first_rules.nd rfl (Or.inl rfl) pe_dnewK)
 (pss_cons (ps_for PassesOwn.never rfl (pi_range1 rfl T.n_range (pa_cons (pe_callB (kLen K rfl) (by rfl) T.n_len (by decide +kernel) (pa_cons (pv 0) pa_nil)) pa_nil)) (pg_name (i := 2) sc_first_rules.nd rfl (Or.inl rfl))
  (pss_cons (ps_asg (pe_ix (kIxT K rfl) (pv 0) (pv 2) (fun _ _ => rfl)) (pg_tup rfl (pgs_cons (pg_name (i := 3) sc_first_rules.nd rfl (Or.inl rfl)) (pgs_cons (pg_name (i := 4) sc_first_rules.nd rfl (Or.inl rfl)) pgs_nil))))
 (pss_one (ps_if (pt_cmp (pc_dnotin (hu_of hr) (pv 3) (pv 1)))
  (pss_one (ps_dput (hu_of hr) (pv 1) (pv 3) (pe_tup (pa_cons (pv 2) (pa_cons (pv 4) pa_nil))) rfl))
  pss_nil))))
 (pss_one (ps_ret (pv 1))))), fun ds R h => ?_⟩
  obtain ⟨rs, rfl, hs, hR⟩ := h
  walk_at "start"
  unfold rulesD
  walk_at "w"
  refine ⟨fun i ρ' => ∃ s2 s3 s4, ρ' = [.d (.tup (rs.map ruleD)), .od (firstK 0 [] (rs.take i)), s2, s3, s4], ⟨_, _, _, rfl⟩, fun i x ρ' hx hw => ?_, fun ρ' hw => ?_⟩
  · obtain ⟨s2, s3, s4, rfl⟩ := hw
    obtain ⟨hi, rfl⟩ := rng0_get hx
    rw [Int.toNat_natCast, List.length_map] at hi
    have hr0 : rs[i]? = some rs[i] := List.getElem?_eq_getElem hi
    have e1 := firstK_snoc (rs.take i) 0 [] rs[i]
    rw [← take_snoc hr0, List.length_take, Nat.min_eq_left (by omega), Nat.zero_add] at e1
    have hl := firstK_len (rs.take i) 0 []
    rw [List.length_take] at hl
    simp only [List.length_nil] at hl
    walk_at "w"
    cases e : (valD (firstK 0 [] (rs.take i)) (.s rs[i].1)).isSome with
    | true =>
      rw [e, if_pos rfl] at e1
      walk_at "w"
      exact ⟨_, _, _, by first | (rw [e1]; done) | (rw [e1]; rfl)⟩
    | false =>
      rw [e, if_neg Bool.false_ne_true] at e1
      walk_at "w"
      exact ⟨_, _, _, by first | (rw [e1]; done) | (rw [e1]; rfl)⟩
  · obtain ⟨s2, s3, s4, rfl⟩ := hw
    rw [rngI_len, Int.toNat_natCast, List.length_map, List.take_length]
    walk_at "w"
    exact hR

end

section
variable {P : Program} {wd : World} {K : PySem.W.Frag} {mg : Str → Option Value} {base : Heap} {a : Ad}
@[reducible] def optS : Option W → Dat
  | none => .non
  | some w => .str w
@[reducible] def bestD : Option (Nat × Nat × W) → Dat
  | none => .non
  | some (k, z, t) => .tup [.int (k : Int), .int (z : Int), .str t]
def S_longest_left : List Dat → (Dat → Prop) → Prop := fun ds R => ∃ rs : List Rl, ds = [rulesD rs] ∧ rs.length ≤ 1000 ∧ (∀ r ∈ rs, r.1.length ≤ 100000) ∧ R (.int (longest rs : Int))
theorem ok_longest_left (T : Tx P K mg a) : FnOk P wd K mg base CX0 1 a.f_longest_left a.d_longest_left ["rules"] (spF K S_longest_left) :=
  okF T.F_longest_left sc_longest_left (fun ds R h => by obtain ⟨rs, rfl, hs, hl, hR⟩ := h; rfl) fun cdv A outer s H E hr => by
  refine ⟨_, (pss_one (ps_ret (pe_callB (cr_max rfl) (by rfl) T.n_max (by decide +kernel) (pa_cons (pe_op op_cat (pe_lst (pa_cons pe_int pa_nil)) (pe_lc (own := [("rule", 1)]) rfl sc_longest_left.nd (pi_tup (pv 0)) (blkOk_by (own := [("rule", 1)]) (N := N_longest_left) (sc := defScope s_longest_left) (by decide +kernel)) (fun _ _ _ _ _ => (pg_name (i := 1) sc_longest_left.nd rfl (Or.inl rfl))) (fun _ _ _ _ _ => pts_nil) (fun _ _ _ _ _ => (pe_callB (kLen K rfl) (by rfl) T.n_len (by decide +kernel) (pa_cons (pe_ix (kIxT K rfl) (pv 1) pe_int (fun _ _ => rfl)) pa_nil))))) pa_nil)))), fun ds R h => ?_⟩
  obtain ⟨rs, rfl, hs, hl, hR⟩ := h
  walk_at "start"
  walk_at "w"
  refine g_lcMap (np1 (by rfl) fun _ => rfl) ?_
  walk_at "w"
  refine ⟨fun x => match x with | .tup (.str w :: _) => .int (w.length : Int) | _ => .non, fun i x hx => ?_, ?_⟩
  · obtain ⟨r, hr, rfl⟩ := map_get hx
    have := hl r (List.mem_of_getElem? hr)
    dsimp only [wipeS, List.set]
    walk_at "w"
    rfl
  · rw [List.map_map]
    have e : ((fun x : Dat => match x with | .tup (.str w :: _) => Dat.int (w.length : Int) | _ => .non) ∘ ruleD) = fun r : Rl => Dat.int (r.1.length : Int) := rfl
    rw [e]
    have e2 : [Dat.int 0] ++ rs.map (fun r : Rl => Dat.int (r.1.length : Int)) = ((0 : Int) :: rs.map fun r : Rl => (r.1.length : Int)).map Dat.int := by simp
    refine o2_cat (by simp only [List.length_map, List.length_cons, List.length_nil]; omega) ?_
    rw [e2]
    walk_at "w"
    refine oc_maxL (by simp) fun m hm hle => ?_
    refine ⟨_, rfl, ?_⟩
    have e3 : m = (longest rs : Int) := by
      rcases longest_mem rs with h0 | ⟨r, hr, h0⟩
      · have h1 := hle 0 List.mem_cons_self
        rcases List.mem_cons.mp hm with e | hm
        · omega
        · obtain ⟨r, hr, e⟩ := List.mem_map.mp hm
          have := le_longest hr
          omega
      · have h1 := hle (r.1.length : Int) (List.mem_cons_of_mem _ (List.mem_map.mpr ⟨r, hr, rfl⟩))
        rcases List.mem_cons.mp hm with e | hm
        · omega
        · obtain ⟨r', hr', e⟩ := List.mem_map.mp hm
          have := le_longest hr'
          omega
    rw [e3]
    exact hR
def S_used_at_end : List Dat → (Dat → Prop) → Prop := fun ds R => ∃ (rs : List Rl) (p : W), ds = [.dk (firstR rs), .int (longest rs : Int), .str p] ∧ Good rs ∧ p.length ≤ 100000 ∧ R (optS (step1 rs p))
theorem ok_used_at_end (T : Tx P K mg a) : FnOk P wd K mg base CX0 1 a.f_used_at_end a.d_used_at_end ["lefts", "longest", "pile"] (spF K S_used_at_end) :=
  okF T.F_used_at_end sc_used_at_end (fun ds R h => by obtain ⟨rs, p, rfl, g, hp, hR⟩ := h; rfl) fun cdv A outer s H E hr => by
  refine ⟨_, (pss_cons (ps_set (i := 3) sc_used_at_end.nd rfl (Or.inl rfl) pe_non)
 (pss_cons (ps_for PassesOwn.never rfl (pi_range2 rfl T.n_range (pa_cons pe_int (pa_cons (pe_op op_add (pe_callB (call_min2_ rfl) (by rfl) T.n_min (by decide +kernel) (pa_cons (pv 1) (pa_cons (pe_callB (kLen K rfl) (by rfl) T.n_len (by decide +kernel) (pa_cons (pv 2) pa_nil)) pa_nil))) pe_int) pa_nil))) (pg_name (i := 4) sc_used_at_end.nd rfl (Or.inl rfl))
  (pss_cons (ps_set (i := 5) sc_used_at_end.nd rfl (Or.inl rfl) (pe_dget1 (hu_of hr) (pv 0) (pe_slice sl_str (pv 2) (po_some (pe_op op_sub (pe_callB (kLen K rfl) (by rfl) T.n_len (by decide +kernel) (pa_cons (pv 2) pa_nil)) (pv 4))) po_none) ⟨by rfl, by rfl, by rfl, by rfl⟩))
 (pss_one (ps_if (PW.pt (pw_and (pt_cmpR op_notN_ (pv 5) pe_non (nomark _)) (pw_and1 (PW.pt (pw_or (pt_cmpR op_isN_ (pv 3) pe_non (nomark _)) (pw_or1 (pt_cmpR op_lt (pe_ix (kIxT K rfl) (pv 5) pe_int (fun _ _ => rfl)) (pe_ix (kIxT K rfl) (pv 3) pe_int (fun _ _ => rfl)) (nomark _))))))))
  (pss_one (ps_set (i := 3) sc_used_at_end.nd rfl (Or.inl rfl) (pe_tup (pa_cons (pe_ix (kIxT K rfl) (pv 5) pe_int (fun _ _ => rfl)) (pa_cons (pv 4) (pa_cons (pe_ix (kIxT K rfl) (pv 5) pe_int (fun _ _ => rfl)) pa_nil))))))
  pss_nil))))
 (pss_cons (ps_if (pt_cmpR op_isN_ (pv 3) pe_non (nomark _))
  (pss_one (ps_ret pe_non))
  pss_nil)
 (pss_one (ps_ret (pe_op op_addS (pe_slice sl_str (pv 2) po_none (po_some (pe_op op_sub (pe_callB (kLen K rfl) (by rfl) T.n_len (by decide +kernel) (pa_cons (pv 2) pa_nil)) (pe_ix (kIxT K rfl) (pv 3) pe_int (fun _ _ => rfl))))) (pe_ix (kIxT K rfl) (pv 3) pe_int (fun _ _ => rfl)))))))), fun ds R h => ?_⟩
  obtain ⟨rs, p, rfl, g, hp, hR⟩ := h
  walk_at "start"
  have hlg := longest_good g
  walk_at "w"
  refine ⟨fun i ρ' => ∃ o s4 s5, ρ' = [.d (.dk (firstR rs)), .d (.int (longest rs : Int)), .d (.str p), .d (bestD o), s4, s5] ∧ Best rs p i o, ⟨none, _, _, rfl, best_zero g p⟩, fun i x ρ' hx hw => ?_, fun ρ' hw => ?_⟩
  · obtain ⟨o, s4, s5, rfl, hb⟩ := hw
    obtain ⟨hi, rfl⟩ := rngI_get' hx
    have hi2 : i + 1 ≤ p.length := by omega
    walk_at "w"
    have e1 : ((p.length : Int) - (1 + (i : Int))).toNat = p.length - (i + 1) := by omega
    have hz : ((i + 1 : Nat) : Int) = 1 + (i : Int) := by omega
    rw [cut_from _ (by omega), e1]
    obtain ⟨s1, s2⟩ := best_step hi2 hb
    rcases firstR_val (p.drop (p.length - (i + 1))) rs with ⟨h1, h2⟩ | ⟨k, r, h1, h2, h3, h4⟩
    · rw [h2]
      dsimp only [Option.getD]
      walk_at "w"
      exact ⟨o, _, _, rfl, s1 h1⟩
    · rw [h4]
      dsimp only [Option.getD]
      have s3 := s2 k r h1 h2 h3
      cases o with
      | none =>
        dsimp only [bestD]
        walk_at "w"
        exact ⟨some (k, i + 1, r.2), _, _, by dsimp only [bestD, List.set]; rw [hz], s3⟩
      | some x =>
        obtain ⟨k0, z, t⟩ := x
        dsimp only [bestD]
        walk_at "w"
        refine BV.c_dec (fun hk => ?_) fun hk => ?_
        · walk_at "w"
          dsimp only at s3
          rw [if_pos (by omega)] at s3
          exact ⟨some (k, i + 1, r.2), _, _, by dsimp only [bestD, List.set]; rw [hz], s3⟩
        · walk_at "w"
          dsimp only at s3
          rw [if_neg (by omega)] at s3
          exact ⟨some (k0, z, t), _, _, rfl, s3⟩
  · obtain ⟨o, s4, s5, rfl, hb⟩ := hw
    rw [rngI_len] at hb
    have hb2 := best_fit (fun r hr h => by
      have h1 := le_longest hr
      have h2 := ends_len h
      omega) hb
    rw [hb2] at hR
    cases o with
    | none =>
      dsimp only [bestD]
      walk_at "w"
      exact hR
    | some x =>
      obtain ⟨k0, z, t⟩ := x
      dsimp only [bestD]
      obtain ⟨r, h1, h2, h3, h4, h5, h6⟩ := hb
      have hz := ends_len h5
      have ht := (g r (List.mem_of_getElem? h1)).2.2
      subst h3
      walk_at "w"
      rw [cut_to _ (by omega)]
      have e1 : ((p.length : Int) - (z : Int)).toNat = p.length - z := by omega
      rw [e1]
      exact hR

def S_left_over : List Dat → (Dat → Prop) → Prop := fun ds R => ∃ (rs : List Rl) (t : W), ds = [.dk (firstR rs), .int (longest rs : Int), .str t] ∧ Good rs ∧ t.length ≤ 50000 ∧ R (.str (left rs t))
theorem ok_left_over (T : Tx P K mg a) : FnOk P wd K mg base CX0 2 a.f_left_over a.d_left_over ["lefts", "longest", "text"] (spF K S_left_over) :=
  okF T.F_left_over sc_left_over (fun ds R h => by obtain ⟨rs, t, rfl, g, ht, hR⟩ := h; rfl) fun cdv A outer s H E hr => by
  refine ⟨_, (pss_cons (ps_set (i := 3) sc_left_over.nd rfl (Or.inl rfl) pe_str)
 (pss_cons (ps_for PassesOwn.never rfl (pi_str (pv 2)) (pg_name (i := 4) sc_left_over.nd rfl (Or.inl rfl))
  (pss_cons (ps_set (i := 3) sc_left_over.nd rfl (Or.inl rfl) (pe_op op_addS (pv 3) (pv 4)))
 (pss_cons (ps_set (i := 5) sc_left_over.nd rfl (Or.inl rfl) (pe_call (ok_used_at_end T) (hr.mono (by decide)) (by rfl) T.g_used_at_end T.k_used_at_end T.b_used_at_end .nil pass0 (pa_cons (pv 0) (pa_cons (pv 1) (pa_cons (pv 3) pa_nil)))))
 (pss_one (ps_while PassesOwn.never (pt_cmpR op_notN_ (pv 5) pe_non (nomark _))
  (pss_cons (ps_set (i := 3) sc_left_over.nd rfl (Or.inl rfl) (pv 5))
 (pss_one (ps_set (i := 5) sc_left_over.nd rfl (Or.inl rfl) (pe_call (ok_used_at_end T) (hr.mono (by decide)) (by rfl) T.g_used_at_end T.k_used_at_end T.b_used_at_end .nil pass0 (pa_cons (pv 0) (pa_cons (pv 1) (pa_cons (pv 3) pa_nil))))))))))))
 (pss_one (ps_ret (pv 3))))), fun ds R h => ?_⟩
  obtain ⟨rs, t, rfl, g, ht, hR⟩ := h
  walk_at "start"
  have hlg := longest_good g
  walk_at "w"
  refine ⟨fun i ρ' => ∃ s4 s5, ρ' = [.d (.dk (firstR rs)), .d (.int (longest rs : Int)), .d (.str t), .d (.str (left rs (t.take i))), s4, s5], ⟨_, _, rfl⟩, fun i x ρ' hx hw => ?_, fun ρ' hw => ?_⟩
  · obtain ⟨s4, s5, rfl⟩ := hw
    obtain ⟨c, hc, rfl⟩ := map_get hx
    have h1 := left_len g (t.take i)
    rw [List.length_take] at h1
    have hi := get_lt hc
    walk_at "w"
    refine ⟨rs, left rs (t.take i) ++ [c], rfl, g, by rw [List.length_append, List.length_singleton]; omega, ?_⟩
    walk_at "w"
    refine run_while (fun m ρ' => ∃ q, ρ' = [.d (.dk (firstR rs)), .d (.int (longest rs : Int)), .d (.str t), .d (.str q), .d (.str [c]), .d (optS (step1 rs q))] ∧ q.length = m ∧ q.length ≤ 50000 ∧ red rs q.length q = left rs (t.take (i + 1))) _ ⟨_, rfl, rfl, by rw [List.length_append, List.length_singleton]; omega, by rw [take_snoc hc, left_snoc]⟩ fun m ρ' hw => ?_
    obtain ⟨q, rfl, hm, hq, hr⟩ := hw
    cases e : step1 rs q with
    | none =>
      walk_at "w"
      rw [← hr, red_none e]
      exact ⟨_, _, rfl⟩
    | some q' =>
      have := step1_len g e
      walk_at "w"
      refine ⟨rs, q', rfl, g, by omega, ?_⟩
      walk_at "w"
      exact ⟨_, by omega, q', rfl, rfl, by omega, by rw [← hr, red_some g e]⟩
  · obtain ⟨s4, s5, rfl⟩ := hw
    rw [List.length_map, List.take_length]
    walk_at "w"
    exact hR

end

section
variable {P : Program} {wd : World} {K : PySem.W.Frag} {mg : Str → Option Value} {base : Heap} {a : Ad}
abbrev ovD (o : Ov) : Dat := .tup [.str o.t, .int (o.i : Int), .int (o.p : Int), .int (o.j : Int)]
def S_overlap_rows : List Dat → (Dat → Prop) → Prop := fun ds R => ∃ rs : List Rl, ds = [rulesD rs] ∧ rs.length ≤ 64 ∧ Good rs ∧ R (.lst ((ovs rs).map ovD))
theorem ok_overlap_rows (T : Tx P K mg a) : FnOk P wd K mg base CX0 1 a.f_overlap_rows a.d_overlap_rows ["rules"] (spF K S_overlap_rows) :=
  okF T.F_overlap_rows sc_overlap_rows (fun ds R h => by obtain ⟨rs, rfl, hs, g, hR⟩ := h; rfl) fun cdv A outer s H E hr => by
  refine ⟨_, (pss_cons (ps_set (i := 1) sc_overlap_rows.nd rfl (Or.inl rfl) (pe_lst pa_nil))
 (pss_cons (ps_for PassesOwn.never rfl (pi_range1 rfl T.n_range (pa_cons (pe_callB (kLen K rfl) (by rfl) T.n_len (by decide +kernel) (pa_cons (pv 0) pa_nil)) pa_nil)) (pg_name (i := 2) sc_overlap_rows.nd rfl (Or.inl rfl))
  (pss_cons (ps_set (i := 3) sc_overlap_rows.nd rfl (Or.inl rfl) (pe_ix (kIxT K rfl) (pe_ix (kIxT K rfl) (pv 0) (pv 2) (fun _ _ => rfl)) pe_int (fun _ _ => rfl)))
 (pss_one (ps_for PassesOwn.never rfl (pi_range1 rfl T.n_range (pa_cons (pe_callB (kLen K rfl) (by rfl) T.n_len (by decide +kernel) (pa_cons (pv 0) pa_nil)) pa_nil)) (pg_name (i := 4) sc_overlap_rows.nd rfl (Or.inl rfl))
  (pss_cons (ps_set (i := 5) sc_overlap_rows.nd rfl (Or.inl rfl) (pe_ix (kIxT K rfl) (pe_ix (kIxT K rfl) (pv 0) (pv 4) (fun _ _ => rfl)) pe_int (fun _ _ => rfl)))
 (pss_one (ps_for PassesOwn.never rfl (pi_range1 rfl T.n_range (pa_cons (pe_callB (kLen K rfl) (by rfl) T.n_len (by decide +kernel) (pa_cons (pv 3) pa_nil)) pa_nil)) (pg_name (i := 6) sc_overlap_rows.nd rfl (Or.inl rfl))
  (pss_cons (ps_if (PW.pt (pw_and (pt_cmpR op_eq (pv 6) pe_int (nomark _)) (pw_and1 (pt_cmpR op_ge (pv 2) (pv 4) (nomark _)))))
  (pss_one ps_continue)
  pss_nil)
 (pss_cons (ps_set (i := 7) sc_overlap_rows.nd rfl (Or.inl rfl) (pe_callB (call_min2_ rfl) (by rfl) T.n_min (by decide +kernel) (pa_cons (pe_op op_sub (pe_callB (kLen K rfl) (by rfl) T.n_len (by decide +kernel) (pa_cons (pv 3) pa_nil)) (pv 6)) (pa_cons (pe_callB (kLen K rfl) (by rfl) T.n_len (by decide +kernel) (pa_cons (pv 5) pa_nil)) pa_nil))))
 (pss_one (ps_if (pt_cmpR op_eq (pe_slice sl_str (pv 3) (po_some (pv 6)) (po_some (pe_op op_add (pv 6) (pv 7)))) (pe_slice sl_str (pv 5) po_none (po_some (pv 7))) (nomark _))
  (pss_one (ps_expr (pe_bm PySem.F.plainAttrs_list PySem.F.slot_list_append PySem.F.type_list_append mt_append (pv 1) (pa_cons (pe_tup (pa_cons (pe_op op_addS (pv 3) (pe_slice sl_str (pv 5) (po_some (pv 7)) po_none)) (pa_cons (pv 2) (pa_cons (pv 6) (pa_cons (pv 4) pa_nil))))) pa_nil))))
  pss_nil)))))))))))
 (pss_one (ps_ret (pv 1))))), fun ds R h => ?_⟩
  obtain ⟨rs, rfl, hs, g, hR⟩ := h
  walk_at "start"
  walk_at "w"
  refine ⟨fun i ρ' => ∃ (s2 s3 s4 s5 s6 s7 : Slot), ρ' = [.d (.tup (rs.map ruleD)), .own ((ovI rs i).map ovD), s2, s3, s4, s5, s6, s7], ⟨_, _, _, _, _, _, rfl⟩, fun i x ρ' hx hw => ?_, fun ρ' hw => ?_⟩
  · obtain ⟨s2, s3, s4, s5, s6, s7, rfl⟩ := hw
    obtain ⟨hi, rfl⟩ := rng0_get hx
    rw [Int.toNat_natCast, List.length_map] at hi
    have hl : rs[i]? = some rs[i] := List.getElem?_eq_getElem hi
    have gl := g rs[i] (List.getElem_mem hi)
    generalize rs[i] = l at hl gl
    have hll : lenL rs i = l.1.length := by unfold lenL; rw [hl]
    have hb1 := ovI_len g hs i
    walk_at "w"
    refine ⟨fun j ρ' => ∃ (s4 s5 s6 s7 : Slot), ρ' = [.d (.tup (rs.map ruleD)), .own ((ovI rs i ++ ovJ rs i j).map ovD), .d (.int (i : Int)), .d (.str l.1), s4, s5, s6, s7], ⟨_, _, _, _, by rw [show ovJ rs i 0 = [] from rfl, List.append_nil]⟩, fun j y ρ' hy hw => ?_, fun ρ' hw => ?_⟩
    · obtain ⟨s4, s5, s6, s7, rfl⟩ := hw
      obtain ⟨hj, rfl⟩ := rng0_get hy
      rw [Int.toNat_natCast, List.length_map] at hj
      have hr2 : rs[j]? = some rs[j] := List.getElem?_eq_getElem hj
      have gr := g rs[j] (List.getElem_mem hj)
      generalize rs[j] = r at hr2 gr
      have hb2 := ovJ_len g i j
      walk_at "w"
      refine ⟨fun p ρ' => ∃ (s6 s7 : Slot), ρ' = [.d (.tup (rs.map ruleD)), .own ((ovI rs i ++ ovJ rs i j ++ ovP rs i j p).map ovD), .d (.int (i : Int)), .d (.str l.1), .d (.int (j : Int)), .d (.str r.1), s6, s7], ⟨_, _, by rw [show ovP rs i j 0 = [] from rfl, List.append_nil]⟩, fun p z ρ' hz hw => ?_, fun ρ' hw => ?_⟩
      · obtain ⟨s6, s7, rfl⟩ := hw
        obtain ⟨hp, rfl⟩ := rng0_get hz
        rw [Int.toNat_natCast] at hp
        have hsh : min ((l.1.length : Int) - (p : Int)) (r.1.length : Int) = ((min (l.1.length - p) r.1.length : Nat) : Int) := by omega
        have hb3 := ovP_len rs i j p
        have hsz : ((ovI rs i ++ ovJ rs i j ++ ovP rs i j p).map ovD).length < 1000000 := by
          rw [List.length_map, List.length_append, List.length_append]
          omega
        have hsu := ovP_succ rs i j p
        have one : ovOne rs i j p = if p = 0 ∧ j ≤ i then none else if (l.1.drop p).take (min (l.1.length - p) r.1.length) = r.1.take (min (l.1.length - p) r.1.length) then some ⟨l.1 ++ r.1.drop (min (l.1.length - p) r.1.length), i, p, j⟩ else none := by
          unfold ovOne
          rw [hl, hr2]
        rw [one] at hsu
        have rest : ¬ (p = 0 ∧ j ≤ i) → True := fun _ => trivial
        have no : ∀ s6 s7, ovP rs i j (p + 1) = ovP rs i j p → ∃ (s6' s7' : Slot), [Slot.d (.tup (rs.map ruleD)), .own ((ovI rs i ++ ovJ rs i j ++ ovP rs i j p).map ovD), .d (.int (i : Int)), .d (.str l.1), .d (.int (j : Int)), .d (.str r.1), s6, s7] = [Slot.d (.tup (rs.map ruleD)), .own ((ovI rs i ++ ovJ rs i j ++ ovP rs i j (p + 1)).map ovD), .d (.int (i : Int)), .d (.str l.1), .d (.int (j : Int)), .d (.str r.1), s6', s7'] := fun s6 s7 e => ⟨s6, s7, by rw [e]⟩
        walk_at "w"
        refine BV.c_dec (fun h0 => ?_) fun h0 => ?_
        · walk_at "w"
          refine BV.c_dec (fun h1 => ?_) fun h1 => ?_
          · rw [if_pos ⟨by omega, by omega⟩] at hsu
            walk_at "w"
            exact no _ _ (by rw [hsu]; exact List.append_nil _)
          · rw [if_neg (by omega)] at hsu
            walk_at "w"
            rw [hsh]
            generalize hm : min (l.1.length - p) r.1.length = m at hsu
            rw [cut_mid _ (by omega) (by omega), cut_to _ (by omega), Int.toNat_natCast, Int.toNat_natCast, show ((p : Int) + (m : Int)).toNat - p = m by omega]
            refine BV.c_dec (fun he => ?_) fun he => ?_
            · rw [if_pos he] at hsu
              walk_at "w"
              rw [cut_from _ (by omega), Int.toNat_natCast]
              have hd : (List.drop m r.1).length ≤ r.1.length := by rw [List.length_drop]; omega
              walk_at "w"
              exact ⟨_, _, by dsimp only [List.set]; rw [hsu, ← List.append_assoc, List.map_append (l₁ := ovI rs i ++ ovJ rs i j ++ ovP rs i j p)]; rfl⟩
            · rw [if_neg he] at hsu
              walk_at "w"
              exact no _ _ (by rw [hsu]; exact List.append_nil _)
        · rw [if_neg (by omega)] at hsu
          walk_at "w"
          rw [hsh]
          generalize hm : min (l.1.length - p) r.1.length = m at hsu
          rw [cut_mid _ (by omega) (by omega), cut_to _ (by omega), Int.toNat_natCast, Int.toNat_natCast, show ((p : Int) + (m : Int)).toNat - p = m by omega]
          refine BV.c_dec (fun he => ?_) fun he => ?_
          · rw [if_pos he] at hsu
            walk_at "w"
            rw [cut_from _ (by omega), Int.toNat_natCast]
            have hd : (List.drop m r.1).length ≤ r.1.length := by rw [List.length_drop]; omega
            walk_at "w"
            exact ⟨_, _, by dsimp only [List.set]; rw [hsu, ← List.append_assoc, List.map_append (l₁ := ovI rs i ++ ovJ rs i j ++ ovP rs i j p)]; rfl⟩
          · rw [if_neg he] at hsu
            walk_at "w"
            exact no _ _ (by rw [hsu]; exact List.append_nil _)
      · obtain ⟨s6, s7, rfl⟩ := hw
        rw [rngI_len, Int.toNat_natCast]
        exact ⟨_, _, _, _, by rw [ovJ_succ, hll, List.append_assoc]⟩
    · obtain ⟨s4, s5, s6, s7, rfl⟩ := hw
      rw [rngI_len, Int.toNat_natCast, List.length_map]
      exact ⟨_, _, _, _, _, _, by rw [ovI_succ]⟩
  · obtain ⟨s2, s3, s4, s5, s6, s7, rfl⟩ := hw
    rw [rngI_len, Int.toNat_natCast, List.length_map]
    walk_at "w"
    exact hR
def S_both_results : List Dat → (Dat → Prop) → Prop := fun ds R => ∃ (rs : List Rl) (o : Ov) (l r : Rl), ds = [rulesD rs, ovD o] ∧ rs[o.i]? = some l ∧ rs[o.j]? = some r ∧ o.t.length ≤ 1000 ∧ Good rs ∧ R (.tup [.str (l.2 ++ o.t.drop l.1.length), .str (o.t.take o.p ++ r.2 ++ o.t.drop (o.p + r.1.length))])
theorem ok_both_results (T : Tx P K mg a) : FnOk P wd K mg base CX0 1 a.f_both_results a.d_both_results ["rules", "overlap"] (spF K S_both_results) :=
  okF T.F_both_results sc_both_results (fun ds R h => by obtain ⟨rs, o, l, r, rfl, hl, hr2, ho, g, hR⟩ := h; rfl) fun cdv A outer s H E hr => by
  refine ⟨_, (pss_cons (ps_asg (pv 1) (pg_tup rfl (pgs_cons (pg_name (i := 2) sc_both_results.nd rfl (Or.inl rfl)) (pgs_cons (pg_name (i := 3) sc_both_results.nd rfl (Or.inl rfl)) (pgs_cons (pg_name (i := 4) sc_both_results.nd rfl (Or.inl rfl)) (pgs_cons (pg_name (i := 5) sc_both_results.nd rfl (Or.inl rfl)) pgs_nil))))))
 (pss_cons (ps_set (i := 6) sc_both_results.nd rfl (Or.inl rfl) (pe_op op_addS (pe_ix (kIxT K rfl) (pe_ix (kIxT K rfl) (pv 0) (pv 3) (fun _ _ => rfl)) pe_int (fun _ _ => rfl)) (pe_slice sl_str (pv 2) (po_some (pe_callB (kLen K rfl) (by rfl) T.n_len (by decide +kernel) (pa_cons (pe_ix (kIxT K rfl) (pe_ix (kIxT K rfl) (pv 0) (pv 3) (fun _ _ => rfl)) pe_int (fun _ _ => rfl)) pa_nil))) po_none)))
 (pss_cons (ps_set (i := 7) sc_both_results.nd rfl (Or.inl rfl) (pe_op op_addS (pe_op op_addS (pe_slice sl_str (pv 2) po_none (po_some (pv 4))) (pe_ix (kIxT K rfl) (pe_ix (kIxT K rfl) (pv 0) (pv 5) (fun _ _ => rfl)) pe_int (fun _ _ => rfl))) (pe_slice sl_str (pv 2) (po_some (pe_op op_add (pv 4) (pe_callB (kLen K rfl) (by rfl) T.n_len (by decide +kernel) (pa_cons (pe_ix (kIxT K rfl) (pe_ix (kIxT K rfl) (pv 0) (pv 5) (fun _ _ => rfl)) pe_int (fun _ _ => rfl)) pa_nil)))) po_none)))
 (pss_one (ps_ret (pe_tup (pa_cons (pv 6) (pa_cons (pv 7) pa_nil)))))))), fun ds R h => ?_⟩
  obtain ⟨rs, o, l, r, rfl, hl, hr2, ho, g, hR⟩ := h
  walk_at "start"
  have gl := g l (List.mem_of_getElem? hl)
  have gr := g r (List.mem_of_getElem? hr2)
  have c1 := cut_le o.t none (some (o.p : Int))
  have c2 := cut_le o.t (some ((o.p : Int) + (r.1.length : Int))) none
  walk_at "w"
  rw [cut_from _ (by omega), cut_to _ (by omega), cut_from _ (by omega), Int.toNat_natCast, Int.toNat_natCast, show ((o.p : Int) + (r.1.length : Int)).toNat = o.p + r.1.length by omega]
  exact hR

end

section
variable {P : Program} {wd : World} {K : PySem.W.Frag} {mg : Str → Option Value} {base : Heap} {a : Ad}
def SgOk (s : W) : Prop := 1 ≤ s.length ∧ s.length ≤ 8 ∧ ∀ k (h : k < s.length), 97 ≤ s[k] ∧ s[k] ≤ 122 ∧ (0 < k → s[k - 1] < s[k])
def S_is_signs : List Dat → (Dat → Prop) → Prop := fun ds R => ∃ s : W, ds = [.str s] ∧ SgOk s ∧ R (.bl true)
theorem ok_is_signs (T : Tx P K mg a) : FnOk P wd K mg base CX0 1 a.f_is_signs a.d_is_signs ["thing"] (spF K S_is_signs) :=
  okF T.F_is_signs sc_is_signs (fun ds R h => by obtain ⟨s, rfl, ⟨h1, h2, h3⟩, hR⟩ := h; rfl) fun cdv A outer s H E hr => by
  refine ⟨_, (pss_cons (ps_if (PW.pt (pw_or (pt_not (pt_val (pe_callB (kIsi K rfl) (by rfl) T.n_isinstance (by decide +kernel) (pa_cons (pv 0) (pa_cons (pe_bltn (v := .ty "str") (by rfl) T.n_str (by decide +kernel) rfl) pa_nil))))) (pw_or1 (pt_not (pt_chain op_le op_le pe_int (pe_callB (kLen K rfl) (by rfl) T.n_len (by decide +kernel) (pa_cons (pv 0) pa_nil)) pe_int)))))
  (pss_one (ps_ret pe_bl))
  pss_nil)
 (pss_cons (ps_for PassesOwn.never rfl (pi_range1 rfl T.n_range (pa_cons (pe_callB (kLen K rfl) (by rfl) T.n_len (by decide +kernel) (pa_cons (pv 0) pa_nil)) pa_nil)) (pg_name (i := 1) sc_is_signs.nd rfl (Or.inl rfl))
  (pss_one (ps_if (PW.pt (pw_or (pt_cmpR op_notInS (pe_ix ix_str (pv 0) (pv 1) (fun _ _ => rfl)) (pe_glob (v := .str "abcdefghijklmnopqrstuvwxyz") rfl T.c_LETTERS ⟨_, rfl⟩) (by rfl)) (pw_or1 (PW.pt (pw_and (pt_cmpR op_gt (pv 1) pe_int (nomark _)) (pw_and1 (pt_cmpR op_geS (pe_ix ix_str (pv 0) (pe_op op_sub (pv 1) pe_int) (fun _ _ => rfl)) (pe_ix ix_str (pv 0) (pv 1) (fun _ _ => rfl)) (nomark _))))))))
  (pss_one (ps_ret pe_bl))
  pss_nil)))
 (pss_one (ps_ret pe_bl)))), fun ds R h => ?_⟩
  obtain ⟨s, rfl, ⟨h1, h2, h3⟩, hR⟩ := h
  walk_at "start"
  walk_at "w"
  refine ⟨fun i ρ' => ∃ s1, ρ' = [.d (.str s), s1], ⟨_, rfl⟩, fun i x ρ' hx hw => ?_, fun ρ' hw => ?_⟩
  · obtain ⟨s1, rfl⟩ := hw
    obtain ⟨hi, rfl⟩ := rng0_get hx
    rw [Int.toNat_natCast] at hi
    obtain ⟨h4, h5, h6⟩ := h3 i hi
    have e1 : s[i]? = some s[i] := List.getElem?_eq_getElem hi
    generalize s[i] = c at h4 h5 h6 e1
    walk_at "w"
    refine o2_ixS (by omega) (at_nat e1) ?_
    have hm : c ∈ (Str.ofString "abcdefghijklmnopqrstuvwxyz").cps.toList := by
      rw [show (Str.ofString "abcdefghijklmnopqrstuvwxyz").cps.toList = (List.range 26).map (· + 97) by decide +kernel]
      exact List.mem_map.mpr ⟨c - 97, List.mem_range.mpr (by omega), by omega⟩
    walk_at "w"
    refine BV.c_dec (fun h0 => ?_) fun h0 => ?_
    · have h7 := h6 (by omega)
      have hi2 : i - 1 < s.length := by omega
      have e2 : s[i - 1]? = some s[i - 1] := List.getElem?_eq_getElem hi2
      generalize s[i - 1] = b at h7 e2
      have e3 := at_nat e2
      rw [show ((i - 1 : Nat) : Int) = (i : Int) - 1 by omega] at e3
      walk_at "w"
      refine o2_ixS (by omega) e3 ?_
      walk_at "w"
      refine o2_ixS (by omega) (at_nat e1) ?_
      have hlt : ([b] : List Nat) < [c] := List.cons_lt_cons_iff.mpr (.inl h7)
      walk_at "w"
      exact ⟨_, rfl⟩
    · walk_at "w"
      exact ⟨_, rfl⟩
  · obtain ⟨s1, rfl⟩ := hw
    walk_at "w"
    exact hR
def S_check_signs : List Dat → (Dat → Prop) → Prop := fun ds R => ∃ s : W, ds = [.str s] ∧ SgOk s ∧ R .non
theorem ok_check_signs (T : Tx P K mg a) : FnOk P wd K mg base CX0 2 a.f_check_signs a.d_check_signs ["thing"] (spF K S_check_signs) :=
  okF T.F_check_signs sc_check_signs (fun ds R h => by obtain ⟨s, rfl, h1, hR⟩ := h; rfl) fun cdv A outer s H E hr => by
  refine ⟨_, (pss_one (ps_if (pt_not (pt_val (pe_call (ok_is_signs T) (hr.mono (by decide)) (by rfl) T.g_is_signs T.k_is_signs T.b_is_signs .nil pass0 (pa_cons (pv 0) pa_nil))))
  (pss_one (ps_never))
  pss_nil)), fun ds R h => ?_⟩
  obtain ⟨s, rfl, h1, hR⟩ := h
  walk_at "start"
  walk_at "w"
  refine ⟨s, rfl, h1, ?_⟩
  walk_at "w"
  exact hR
def allIn (sg t : W) : Bool := t.all fun c => decide (c ∈ sg)
theorem allIn_yes {sg t : W} (h : ∀ c ∈ t, c ∈ sg) : allIn sg t = true := List.all_eq_true.mpr fun c hc => decide_eq_true (h c hc)
theorem allIn_mem {sg t : W} (h : allIn sg t = true) : ∀ c ∈ t, c ∈ sg := fun c hc => of_decide_eq_true (List.all_eq_true.mp h c hc)
theorem allIn_no {sg t : W} {c : Nat} (h : c ∈ t) (g : ¬ c ∈ sg) : allIn sg t = false := by
  cases e : allIn sg t with
  | false => rfl
  | true => exact absurd (allIn_mem e c h) g
/-- what may be asked to be a text -/
def TxA (x : Dat) : Prop := x = .non ∨ (∃ z, x = .int z) ∨ (∃ ds, x = .tup ds) ∨ ∃ t : W, x = .str t ∧ t.length ≤ 1000
def isTx (sg : W) (x : Dat) (lo hi : Int) : Bool := match x with
  | .str t => (decide (lo ≤ (t.length : Int)) && decide ((t.length : Int) ≤ hi)) && allIn sg t
  | _ => false
theorem isTx_str (sg t : W) (lo hi : Int) : isTx sg (.str t) lo hi = ((decide (lo ≤ (t.length : Int)) && decide ((t.length : Int) ≤ hi)) && allIn sg t) := rfl
theorem isTx_yes {sg t : W} {lo hi : Int} (h1 : lo ≤ (t.length : Int)) (h2 : (t.length : Int) ≤ hi) (h : ∀ c ∈ t, c ∈ sg) : isTx sg (.str t) lo hi = true := by
  rw [isTx_str, decide_eq_true h1, decide_eq_true h2, allIn_yes h]
  rfl
def S_is_text : List Dat → (Dat → Prop) → Prop := fun ds R => ∃ (sg : W) (x : Dat) (lo hi : Int), ds = [.str sg, x, .int lo, .int hi] ∧ sg.length ≤ 1000 ∧ TxA x ∧ R (.bl (isTx sg x lo hi))
theorem ok_is_text (T : Tx P K mg a) : FnOk P wd K mg base CX0 1 a.f_is_text a.d_is_text ["signs", "thing", "low", "high"] (spF K S_is_text) :=
  okF T.F_is_text sc_is_text (fun ds R h => by obtain ⟨sg, x, lo, hi, rfl, h1, hx, hR⟩ := h; rfl) fun cdv A outer s H E hr => by
  refine ⟨_, (pss_cons (ps_if (PW.pt (pw_or (pt_not (pt_val (pe_callB (kIsi K rfl) (by rfl) T.n_isinstance (by decide +kernel) (pa_cons (pv 1) (pa_cons (pe_bltn (v := .ty "str") (by rfl) T.n_str (by decide +kernel) rfl) pa_nil))))) (pw_or1 (pt_not (pt_chain op_le op_le (pv 2) (pe_callB (kLen K rfl) (by rfl) T.n_len (by decide +kernel) (pa_cons (pv 1) pa_nil)) (pv 3))))))
  (pss_one (ps_ret pe_bl))
  pss_nil)
 (pss_cons (ps_for PassesOwn.never rfl (pi_str (pv 1)) (pg_name (i := 4) sc_is_text.nd rfl (Or.inl rfl))
  (pss_one (ps_if (pt_cmpR op_notInS (pv 4) (pv 0) (by rfl))
  (pss_one (ps_ret pe_bl))
  pss_nil)))
 (pss_one (ps_ret pe_bl)))), fun ds R h => ?_⟩
  obtain ⟨sg, x, lo, hi, rfl, h1, hx, hR⟩ := h
  walk_at "start"
  rcases hx with rfl | ⟨z, rfl⟩ | ⟨ds, rfl⟩ | ⟨t, rfl, h2⟩
  · walk_at "w"
    exact hR
  · walk_at "w"
    exact hR
  · walk_at "w"
    exact hR
  by_cases h4 : lo ≤ (t.length : Int)
  · by_cases h5 : (t.length : Int) ≤ hi
    · have e : isTx sg (.str t) lo hi = allIn sg t := by
        rw [isTx_str, decide_eq_true h4, decide_eq_true h5]
        rfl
      rw [e] at hR
      walk_at "w"
      refine ⟨fun i ρ' => (∃ s1, ρ' = [.d (.str sg), .d (.str t), .d (.int lo), .d (.int hi), s1]) ∧ ∀ c ∈ t.take i, c ∈ sg, ⟨⟨_, rfl⟩, by simp⟩, fun i x ρ' hx hw => ?_, fun ρ' hw => ?_⟩
      · obtain ⟨⟨s1, rfl⟩, hw⟩ := hw
        obtain ⟨c, hc, rfl⟩ := map_get hx
        by_cases hc2 : c ∈ sg
        · walk_at "w"
          refine ⟨⟨_, rfl⟩, fun d hd => ?_⟩
          rw [take_snoc hc] at hd
          rcases List.mem_append.mp hd with z | z
          · exact hw d z
          · rw [List.mem_singleton] at z
            rw [z]
            exact hc2
        · rw [allIn_no (List.mem_of_getElem? hc) hc2] at hR
          walk_at "w"
          exact hR
      · obtain ⟨⟨s1, rfl⟩, hw⟩ := hw
        rw [List.length_map, List.take_length] at hw
        rw [allIn_yes hw] at hR
        walk_at "w"
        exact hR
    · have e : isTx sg (.str t) lo hi = false := by
        rw [isTx_str, decide_eq_false h5, Bool.and_false]
        rfl
      rw [e] at hR
      walk_at "w"
      exact hR
  · have e : isTx sg (.str t) lo hi = false := by
      rw [isTx_str, decide_eq_false h4]
      rfl
    rw [e] at hR
    walk_at "w"
    exact hR
def S_check_text : List Dat → (Dat → Prop) → Prop := fun ds R => ∃ (sg t : W), ds = [.str sg, .str t] ∧ sg.length ≤ 1000 ∧ t.length ≤ 200 ∧ (∀ c ∈ t, c ∈ sg) ∧ R .non
theorem ok_check_text (T : Tx P K mg a) : FnOk P wd K mg base CX0 2 a.f_check_text a.d_check_text ["signs", "thing"] (spF K S_check_text) :=
  okF T.F_check_text sc_check_text (fun ds R h => by obtain ⟨sg, t, rfl, h1, h2, h3, hR⟩ := h; rfl) fun cdv A outer s H E hr => by
  refine ⟨_, (pss_one (ps_if (pt_not (pt_val (pe_call (ok_is_text T) (hr.mono (by decide)) (by rfl) T.g_is_text T.k_is_text T.b_is_text .nil pass0 (pa_cons (pv 0) (pa_cons (pv 1) (pa_cons pe_int (pa_cons (pe_glob (v := .int 200) rfl T.c_LONGEST_TEXT ⟨_, rfl⟩) pa_nil)))))))
  (pss_one (ps_never))
  pss_nil)), fun ds R h => ?_⟩
  obtain ⟨sg, t, rfl, h1, h2, h3, hR⟩ := h
  walk_at "start"
  walk_at "w"
  refine ⟨sg, .str t, 0, 200, rfl, h1, .inr (.inr (.inr ⟨t, rfl, by omega⟩)), ?_⟩
  rw [isTx_yes (by omega) (by omega) h3]
  walk_at "w"
  exact hR

end

section
variable {P : Program} {wd : World} {K : PySem.W.Frag} {mg : Str → Option Value} {base : Heap} {a : Ad}
def S_law_source : List Dat → Prop := fun ds => ∃ (ns : List Int) (k : Nat), ds = [.scr ns, .int (k : Int)] ∧ ns.length ≤ 63 ∧ (∀ z ∈ ns, Builtin.Int.intBits z ≤ 1048576) ∧ k ≤ 100
theorem ok__law_source (T : Tx P K mg a) : FnOk P wd K mg base CX0 1 a.f__law_source a.d__law_source ["script", "place"] (spN K S_law_source) :=
  okN T.F__law_source sc__law_source (fun ds h => by obtain ⟨ns, k, rfl, h1, h2, h3⟩ := h; rfl) fun cdv A outer s H E hr => by
  refine ⟨_, (pss_cons (ps_set (i := 2) sc__law_source.nd rfl (Or.inl rfl) (pe_ifExp (pt_cmpR op_lt (pv 1) (pe_callB (kLen K rfl) (by rfl) T.n_len (by decide +kernel) (pa_cons (pv 0) pa_nil)) (nomark _)) (pe_ix (kIxL K rfl) (pv 0) (pv 1) (fun _ _ => rfl)) (pe_op op_add (pe_op op_mul pe_int (pv 1)) pe_int)))
 (pss_cons (ps_set (i := 3) sc__law_source.nd rfl (Or.inl rfl) (pe_op op_add (pe_op op_mul pe_int (pv 1)) pe_int))
 (pss_cons (ps_for PassesOwn.never rfl (pi_list (pe_slice sl_list (pv 0) po_none (po_some pe_int))) (pg_name (i := 4) sc__law_source.nd rfl (Or.inl rfl))
  (pss_one (ps_set (i := 3) sc__law_source.nd rfl (Or.inl rfl) (pe_op op_modN (pe_callTy call_int_ (by rfl) T.n_int (by decide +kernel) (pa_cons (pe_op op_add (pe_op op_mul (pv 3) pe_int) (pe_op op_modN (pe_callTy call_int_ (by rfl) T.n_int (by decide +kernel) (pa_cons (pv 4) pa_nil)) pe_int)) pa_nil)) pe_int))))
 (pss_cons (ps_set (i := 3) sc__law_source.nd rfl (Or.inl rfl) (pe_op op_modN (pe_callTy call_int_ (by rfl) T.n_int (by decide +kernel) (pa_cons (pe_op op_add (pe_op op_mul (pv 3) pe_int) (pe_op op_modN (pe_callTy call_int_ (by rfl) T.n_int (by decide +kernel) (pa_cons (pv 2) pa_nil)) pe_int)) pa_nil)) pe_int))
 (pss_cons (ps_set (i := 5) sc__law_source.nd rfl (Or.inl rfl) (pe_callB call_abs_ (by rfl) T.n_abs (by decide +kernel) (pa_cons (pv 2) pa_nil)))
 (pss_cons (ps_if (pt_cmpR op_lt (pv 5) (pe_op op_pow pe_int pe_int) (nomark _))
  (pss_one (ps_ret (pe_lst (pa_cons pe_int (pa_cons (pv 3) (pa_cons pe_int pa_nil))))))
  pss_nil)
 (pss_cons (ps_if (pt_cmpR op_gt (pe_op op_shr (pv 5) pe_int) pe_int (nomark _))
  (pss_one (ps_set (i := 5) sc__law_source.nd rfl (Or.inl rfl) (pe_op op_sub (pv 5) (pe_op op_shlW (pe_op op_shr (pv 5) pe_int) pe_int))))
  pss_nil)
 (pss_one (ps_ret (pe_lst (pa_cons (pv 5) (pa_cons (pv 3) (pa_cons pe_int pa_nil))))))))))))), fun ds h => ?_⟩
  obtain ⟨ns, k, rfl, h1, h2, h3⟩ := h
  walk_at "start"
  refine run_seq (run_asg (G.mono (R := fun d => ∃ z, d = .int z ∧ Builtin.Int.intBits z ≤ 1048576) ?_ fun d ⟨z, e, hz⟩ => ?_))
  · walk_at "w"
    refine BV.c_dec (fun hk => ?_) fun hk => ?_
    · have hl : ns[k]? = some ns[k] := List.getElem?_eq_getElem (by omega)
      have hb := h2 ns[k] (List.getElem_mem _)
      generalize ns[k] = z at hl hb
      walk_at "w"
      refine o2_ixScr (at_nat hl) ?_
      exact ⟨z, rfl, hb⟩
    · walk_at "w"
      have hb : Builtin.Int.intBits (7 * (k : Int) + 5) ≤ 20 := bits_le (by omega)
      omega
  · subst e
    walk_at "w"
    refine ⟨fun i ρ' => ∃ (y : Int) (s4 : Slot), ρ' = [.d (.scr ns), .d (.int (k : Int)), .d (.int z), .d (.int y), s4, .no], ⟨_, _, rfl⟩, fun i x ρ' hx hw => ?_, fun ρ' hw => ?_⟩
    · obtain ⟨y, s4, rfl⟩ := hw
      have hx2 : ∃ u, x = .int u := by
        have := List.mem_of_getElem? hx
        unfold BV.cut at this
        obtain ⟨u, _, e⟩ := List.mem_map.mp (List.mem_of_mem_drop (List.mem_of_mem_take this))
        exact ⟨u, e.symm⟩
      obtain ⟨u, rfl⟩ := hx2
      walk_at "w"
      exact ⟨_, _, rfl⟩
    · obtain ⟨y, s4, rfl⟩ := hw
      have hb := bits_abs_shr (k := Int.toNat 2500) hz
      walk_at "w"
      refine ⟨fun _ => ?_, fun _ => ?_⟩
      · walk_at "w"
        exact ⟨_, _, _, rfl⟩
      · walk_at "w"
        refine ⟨fun _ => ?_, fun _ => ?_⟩
        · walk_at "w"
          exact ⟨_, _, _, rfl⟩
        · walk_at "w"
          exact ⟨_, _, _, rfl⟩
def S_law_pick : List Dat → (Dat → Prop) → Prop := fun ds R => ∃ m : Int, ds = [.int m] ∧ 0 < m ∧ m ≤ 100000 ∧ ∀ d : Nat, (d : Int) < m → R (.int (d : Int))
theorem ok__law_pick (T : Tx P K mg a) : FnOk P wd K mg base CX0 1 a.f__law_pick a.d__law_pick ["source", "many"] (spS K S_law_pick) :=
  okS T.F__law_pick sc__law_pick (fun ds R h => by obtain ⟨m, rfl, h1, h2, hR⟩ := h; rfl) fun cdv A outer s H E hr => by
  refine ⟨_, (pss_cons (ps_if (pt_cmpR op_gt (pe_ix (kIxL K rfl) (pv 0) pe_int (fun _ _ => rfl)) pe_int (nomark _))
  (pss_cons (ps_set (i := 2) sc__law_pick.nd rfl (Or.inl rfl) (pe_op op_modN (pe_callTy call_int_ (by rfl) T.n_int (by decide +kernel) (pa_cons (pe_ix (kIxL K rfl) (pv 0) pe_int (fun _ _ => rfl)) pa_nil)) (pv 1)))
 (pss_cons (ps_asg (pe_op op_fdivN (pe_ix (kIxL K rfl) (pv 0) pe_int (fun _ _ => rfl)) (pv 1)) (pg_sub (pv 0) pe_int set_list))
 (pss_one (ps_ret (pv 2)))))
  pss_nil)
 (pss_cons (ps_asg (pe_op op_add (pe_ix (kIxL K rfl) (pv 0) pe_int (fun _ _ => rfl)) pe_int) (pg_sub (pv 0) pe_int set_list))
 (pss_cons (ps_set (i := 3) sc__law_pick.nd rfl (Or.inl rfl) (pe_op op_modN (pe_callTy call_int_ (by rfl) T.n_int (by decide +kernel) (pa_cons (pe_op op_mul (pe_op op_add (pe_ix (kIxL K rfl) (pv 0) pe_int (fun _ _ => rfl)) (pe_op op_mul pe_int (pe_ix (kIxL K rfl) (pv 0) pe_int (fun _ _ => rfl)))) pe_int) pa_nil)) pe_int))
 (pss_cons (ps_set (i := 3) sc__law_pick.nd rfl (Or.inl rfl) (pe_op op_modN (pe_callTy call_int_ (by rfl) T.n_int (by decide +kernel) (pa_cons (pe_op op_add (pe_op op_add (pe_op op_mul (pv 3) (pv 3)) (pe_op op_mul pe_int (pe_ix (kIxL K rfl) (pv 0) pe_int (fun _ _ => rfl)))) (pe_ix (kIxL K rfl) (pv 0) pe_int (fun _ _ => rfl))) pa_nil)) pe_int))
 (pss_cons (ps_set (i := 3) sc__law_pick.nd rfl (Or.inl rfl) (pe_op op_modN (pe_callTy call_int_ (by rfl) T.n_int (by decide +kernel) (pa_cons (pe_op op_add (pe_op op_mul (pv 3) pe_int) pe_int) pa_nil)) pe_int))
 (pss_cons (ps_set (i := 3) sc__law_pick.nd rfl (Or.inl rfl) (pe_op op_modN (pe_callTy call_int_ (by rfl) T.n_int (by decide +kernel) (pa_cons (pe_op op_add (pe_op op_mul (pv 3) (pv 3)) (pv 3)) pa_nil)) pe_int))
 (pss_one (ps_ret (pe_op op_modN (pe_callTy call_int_ (by rfl) T.n_int (by decide +kernel) (pa_cons (pe_op op_fdivN (pv 3) pe_int) pa_nil)) (pv 1)))))))))), fun sA ds R h => ?_⟩
  obtain ⟨m, rfl, h1, h2, hR⟩ := h
  walk_at "start"
  have hfin : ∀ z : Int, R (.int (z.fmod m)) := fun z => by
    have h3 := Int.fmod_nonneg_of_pos z h1
    have h4 := Int.fmod_lt_of_pos z h1
    have h5 := hR (z.fmod m).toNat (by omega)
    rw [Int.toNat_of_nonneg h3] at h5
    exact h5
  walk_at "w"
  refine ⟨fun _ => ?_, fun _ => ?_⟩
  · walk_at "w"
    exact hfin _
  · walk_at "w"
    exact hfin _

end

section
variable {P : Program} {wd : World} {K : PySem.W.Frag} {mg : Str → Option Value} {base : Heap} {a : Ad}
theorem fit_filter (rs : List Rl) (q : W) : fit rs q = (rs.filter fun r => endsB q r.1).head? := by
  unfold fit
  rw [List.head?_filter]
def S_law_left : List Dat → (Dat → Prop) → Prop := fun ds R => ∃ (rs : List Rl) (x : Dat) (t : W), ds = [x, .str t] ∧ (x = .lst (rs.map ruleD) ∨ x = .tup (rs.map ruleD)) ∧ Good rs ∧ rs.length ≤ 1000 ∧ t.length ≤ 50000 ∧ R (.str (left rs t))
theorem ok__law_left (T : Tx P K mg a) : FnOk P wd K mg base CX0 1 a.f__law_left a.d__law_left ["rules", "text"] (spF K S_law_left) :=
  okF T.F__law_left sc__law_left (fun ds R h => by obtain ⟨rs, xr, t, rfl, hxr, g, hn, ht, hR⟩ := h; rfl) fun cdv A outer s H E hr => by
  refine ⟨_, (pss_cons (ps_set (i := 2) sc__law_left.nd rfl (Or.inr rfl) pe_str)
 (pss_cons (ps_for PassesOwn.never rfl (pi_str (pv 1)) (pg_name (i := 3) sc__law_left.nd rfl (Or.inl rfl))
  (pss_cons (ps_set (i := 2) sc__law_left.nd rfl (Or.inr rfl) (pe_op op_addS (pv 2) (pv 3)))
 (pss_cons (ps_setLc (i := 4) (own := [("rule", 5)]) rfl sc__law_left.nd rfl rfl (sw_true rfl rfl rfl (by decide +kernel)) (pi_sq (pv 0)) (blkOk_by (own := [("rule", 5)]) (N := N__law_left) (sc := defScope s__law_left) (by decide +kernel)) (fun _ _ _ _ _ => (pg_name (i := 5) sc__law_left.nd rfl (Or.inl rfl))) (fun _ _ _ _ _ => (pts_one (pt_val (pe_m1 PySem.F.slot_str_endswith PySem.F.type_str_endswith mt_endswith_ (pv 2) (pe_ix (kIxT K rfl) (pv 5) pe_int (fun _ _ => rfl)))))) (fun _ _ _ _ _ => (pv 5)))
 (pss_one (ps_while PassesOwn.never (pt_tr (pv 4))
  (pss_cons (ps_set (i := 2) sc__law_left.nd rfl (Or.inr rfl) (pe_op op_addS (pe_slice sl_str (pv 2) po_none (po_some (pe_op op_sub (pe_callB (kLen K rfl) (by rfl) T.n_len (by decide +kernel) (pa_cons (pv 2) pa_nil)) (pe_callB (kLen K rfl) (by rfl) T.n_len (by decide +kernel) (pa_cons (pe_ix (kIxT K rfl) (pe_ix (kIxL K rfl) (pv 4) pe_int (fun _ _ => rfl)) pe_int (fun _ _ => rfl)) pa_nil))))) (pe_ix (kIxT K rfl) (pe_ix (kIxL K rfl) (pv 4) pe_int (fun _ _ => rfl)) pe_int (fun _ _ => rfl))))
 (pss_one (ps_setLc (i := 4) (own := [("rule", 5)]) rfl sc__law_left.nd rfl rfl (sw_true rfl rfl rfl (by decide +kernel)) (pi_sq (pv 0)) (blkOk_by (own := [("rule", 5)]) (N := N__law_left) (sc := defScope s__law_left) (by decide +kernel)) (fun _ _ _ _ _ => (pg_name (i := 5) sc__law_left.nd rfl (Or.inl rfl))) (fun _ _ _ _ _ => (pts_one (pt_val (pe_m1 PySem.F.slot_str_endswith PySem.F.type_str_endswith mt_endswith_ (pv 2) (pe_ix (kIxT K rfl) (pv 5) pe_int (fun _ _ => rfl)))))) (fun _ _ _ _ _ => (pv 5))))))))))
 (pss_one (ps_ret (pv 2))))), fun ds R h => ?_⟩
  obtain ⟨rs, xr, t, rfl, hxr, g, hn, ht, hR⟩ := h
  walk_at "start"
  walk_at "w"
  refine ⟨fun i ρ' => ∃ s3 s4, ρ' = [.d xr, .d (.str t), .d (.str (left rs (t.take i))), s3, s4, .no], ⟨_, _, rfl⟩, fun i x ρ' hx hw => ?_, fun ρ' hw => ?_⟩
  · obtain ⟨s3, s4, rfl⟩ := hw
    obtain ⟨c, hc, rfl⟩ := map_get hx
    have h1 := left_len g (t.take i)
    rw [List.length_take] at h1
    have hi := get_lt hc
    have hq1 : (left rs (t.take i) ++ [c]).length ≤ 50000 := by rw [List.length_append, List.length_singleton]; omega
    walk_at "w"
    refine g_lcSel ruleD (fun r => endsB (left rs (t.take i) ++ [c]) r.1) (np1 (by rfl) fun _ => rfl) ?_
    walk_at "w"
    refine ⟨_, hxr, rs, rfl, by omega, fun r hr => ?_, ?_⟩
    · have gr := g r hr
      dsimp only [wipeS, List.set]
      walk_at "w"
      rw [endsW_eq]
      refine ⟨rfl, fun _ => ?_⟩
      walk_at "w"
      rfl
    walk_at "w"
    refine run_while (fun m ρ' => ∃ q, ρ' = [.d xr, .d (.str t), .d (.str q), .d (.str [c]), .d (.lst ((rs.filter fun r => endsB q r.1).map ruleD)), .no] ∧ q.length = m ∧ q.length ≤ 50000 ∧ red rs q.length q = left rs (t.take (i + 1))) _ ⟨_, rfl, rfl, hq1, by rw [take_snoc hc, left_snoc]⟩ fun m ρ' hw => ?_
    obtain ⟨q, rfl, hm, hq, hr⟩ := hw
    have hfit := fit_filter rs q
    cases e : rs.filter (fun r => endsB q r.1) with
    | nil =>
      rw [e] at hfit
      have e1 : step1 rs q = none := by unfold step1; rw [hfit]; rfl
      walk_at "w"
      refine ⟨fun z => (nomatch z), fun _ => ?_⟩
      walk_at "w"
      rw [← hr, red_none e1]
      exact ⟨_, _, rfl⟩
    | cons r tl =>
      rw [e] at hfit
      have e1 : step1 rs q = some (q.take (q.length - r.1.length) ++ r.2) := by unfold step1; rw [hfit]; rfl
      have hl := step1_len g e1
      obtain ⟨hm1, hm2⟩ := fit_some hfit
      have gr := g r hm1
      have hle := ends_len hm2
      walk_at "w"
      refine ⟨fun _ => ?_, fun z => (nomatch z)⟩
      walk_at "w"
      rw [cut_to _ (by omega), show ((q.length : Int) - (r.1.length : Int)).toNat = q.length - r.1.length by omega]
      generalize q.take (q.length - r.1.length) ++ r.2 = q2 at e1 hl
      walk_at "w"
      refine g_lcSel ruleD (fun r => endsB (q2) r.1) (np1 (by rfl) fun _ => rfl) ?_
      walk_at "w"
      refine ⟨_, hxr, rs, rfl, by omega, fun r hr => ?_, ?_⟩
      · have gr := g r hr
        dsimp only [wipeS, List.set]
        walk_at "w"
        rw [endsW_eq]
        refine ⟨rfl, fun _ => ?_⟩
        walk_at "w"
        rfl
      walk_at "w"
      exact ⟨_, by omega, q2, rfl, rfl, by omega, by rw [← hr, red_some g e1]⟩
  · obtain ⟨s3, s4, rfl⟩ := hw
    rw [List.length_map, List.take_length]
    walk_at "w"
    exact hR
theorem occ_iff {l t : W} (h : occ l t = true) : ∃ a b, t = a ++ l ++ b := by
  unfold occ at h
  obtain ⟨i, hi, hs⟩ := (PySem.StrLaws.found_iff (S t) (S l)).mp h
  rw [PySem.StrLaws.subAt_eq, S_list, S_list, beq_iff_eq] at hs
  have h2 : t.drop i = l ++ (t.drop i).drop (S l).length := by
    conv => lhs; rw [← List.take_append_drop (S l).length (t.drop i), hs]
  exact ⟨t.take i, (t.drop i).drop (S l).length, by rw [List.append_assoc, ← h2, List.take_append_drop]⟩
theorem occ_no {rs : List Rl} {t : W} (h : Irr rs t) {r : Rl} (hr : r ∈ rs) : occ r.1 t = false := by
  cases e : occ r.1 t with
  | false => rfl
  | true =>
    obtain ⟨a, b, e⟩ := occ_iff e
    exact (h a b r hr e).elim
def S_law_is_end : List Dat → (Dat → Prop) → Prop := fun ds R => ∃ (rs : List Rl) (t : W), ds = [rulesD rs, .str t] ∧ Good rs ∧ rs.length ≤ 64 ∧ t.length ≤ 1000 ∧ Irr rs t ∧ R (.bl true)

end

section
variable {P : Program} {wd : World} {K : PySem.W.Frag} {mg : Str → Option Value} {base : Heap} {a : Ad}
def S_kept_tail : List Dat → (Dat → Prop) → Prop := fun ds R => ∃ (ls : List W) (n : Nat) (t : W), ds = [.lst (ls.map Dat.str), .int (n : Int), .str t] ∧ ls.length ≤ 1000 ∧ t.length ≤ 1000 ∧ (∀ l ∈ ls, l.length ≤ 1000) ∧ n ≤ 4 ∧ ∀ k, k ≤ 3 → k ≤ t.length → R (.str (t.drop (t.length - k)))
theorem ok_kept_tail (T : Tx P K mg a) : FnOk P wd K mg base CX0 1 a.f_kept_tail a.d_kept_tail ["lefts", "longest", "text"] (spF K S_kept_tail) :=
  okF T.F_kept_tail sc_kept_tail (fun ds R h => by obtain ⟨ls, n, t, rfl, h1, h2, h3, h4, hR⟩ := h; rfl) fun cdv A outer s H E hr => by
  refine ⟨_, (pss_cons (ps_for PassesOwn.never rfl (pi_range3 rfl T.n_range (pa_cons (pe_callB (call_min2_ rfl) (by rfl) T.n_min (by decide +kernel) (pa_cons (pe_op op_sub (pv 1) pe_int) (pa_cons (pe_callB (kLen K rfl) (by rfl) T.n_len (by decide +kernel) (pa_cons (pv 2) pa_nil)) pa_nil))) (pa_cons pe_int (pa_cons (pe_un un_neg pe_int) pa_nil)))) (pg_name (i := 3) sc_kept_tail.nd rfl (Or.inr rfl))
  (pss_cons (ps_set (i := 4) sc_kept_tail.nd rfl (Or.inr rfl) (pe_slice sl_str (pv 2) (po_some (pe_op op_sub (pe_callB (kLen K rfl) (by rfl) T.n_len (by decide +kernel) (pa_cons (pv 2) pa_nil)) (pv 3))) po_none))
 (pss_one (ps_if (pt_val (pe_callB (cr_any rfl) (by rfl) T.n_any (by decide +kernel) (pa_cons (pe_lc (own := [("left", 5)]) rfl sc_kept_tail.nd (pi_list (pv 0)) (blkOk_by (own := [("left", 5)]) (N := N_kept_tail) (sc := defScope s_kept_tail) (by decide +kernel)) (fun _ _ _ _ _ => (pg_name (i := 5) sc_kept_tail.nd rfl (Or.inl rfl))) (fun _ _ _ _ _ => pts_nil) (fun _ _ _ _ _ => (pe_and (pe_m1 PySem.F.slot_str_startswith PySem.F.type_str_startswith mt_startswith_ (pv 5) (pv 4)) (pe_one (pe_cmpR op_gt (pe_callB (kLen K rfl) (by rfl) T.n_len (by decide +kernel) (pa_cons (pv 5) pa_nil)) (pv 3) (nomark _)))))) pa_nil)))
  (pss_one (ps_ret (pv 4)))
  pss_nil))))
 (pss_one (ps_ret pe_str))), fun ds R h => ?_⟩
  obtain ⟨ls, n, t, rfl, h1, h2, h3, h4, hR⟩ := h
  walk_at "start"
  walk_at "w"
  refine ⟨_, _, _, _, rfl, RgC.neg (by omega) (by omega) (by omega) (by omega), fun i ρ' => ∃ s3 s4, ρ' = [.d (.lst (ls.map Dat.str)), .d (.int (n : Int)), .d (.str t), s3, s4, .no], ⟨_, _, rfl⟩, fun i x ρ' hx hw => ?_, fun ρ' hw => ?_⟩
  · obtain ⟨s3, s4, rfl⟩ := hw
    obtain ⟨hi, rfl⟩ := rngC_get' hx
    have hz : ∃ k : Nat, min ((n : Int) - 1) (t.length : Int) + (i : Int) * (-1) = (k : Int) ∧ k ≤ 3 ∧ k ≤ t.length := ⟨(min ((n : Int) - 1) (t.length : Int) + (i : Int) * (-1)).toNat, by omega, by omega, by omega⟩
    obtain ⟨k, e, hk, hkt⟩ := hz
    rw [e]
    walk_at "w"
    have e1 : ((t.length : Int) - (k : Int)).toNat = t.length - k := by omega
    rw [cut_from _ (by omega), e1]
    walk_at "w"
    refine g_lcB Dat.str (fun l => startsW l (t.drop (t.length - k)) && decide ((k : Int) < (l.length : Int))) (np1 (by rfl) fun _ => rfl) ?_
    walk_at "w"
    refine ⟨ls, rfl, by omega, fun l hl => ?_, ?_⟩
    · have := h3 l hl
      walk_at "w"
      dsimp only [wipeS, List.set]
      walk_at "w"
      refine ⟨fun z => ?_, fun z => ?_⟩
      · walk_at "w"
        rw [z, Bool.true_and]
      · rw [z, Bool.false_and]
    · walk_at "w"
      refine oc_any ?_
      walk_at "w"
      refine ⟨fun _ => ?_, fun _ => ?_⟩
      · walk_at "w"
        exact hR k hk hkt
      · walk_at "w"
        exact ⟨_, _, rfl⟩
  · obtain ⟨s3, s4, rfl⟩ := hw
    walk_at "w"
    have := hR 0 (by omega) (by omega)
    rw [Nat.sub_zero, List.drop_length] at this
    exact this
/-- the tails: no two alike, over the signs, numbered -/
def Tails (sg : W) (names : List W) (kvs : List (DKey × Dat)) : Prop := names.Nodup ∧ (∀ w ∈ names, InW sg 3 w) ∧ (∀ w, w ∈ names ↔ (valD kvs (.s w)).isSome = true) ∧ kvs.length ≤ names.length
theorem Tails.start (sg : W) : Tails sg [[]] [(.s [], .int 0)] := ⟨by simp, fun w hw => by rw [List.mem_singleton] at hw; subst hw; exact ⟨Nat.zero_le _, by simp⟩, fun w => by
  rw [List.mem_singleton]
  unfold valD
  rw [List.find?_cons]
  by_cases h : w = []
  · subst h; simp
  · simp [h, eq_comm], Nat.le_refl _⟩
theorem Tails.new {sg : W} {names : List W} {kvs : List (DKey × Dat)} (h : Tails sg names kvs) {w : W} (hw : InW sg 3 w) (hn : (valD kvs (.s w)).isSome = false) (v : Dat) : Tails sg (names ++ [w]) (putKV kvs (.s w) v) := by
  obtain ⟨h1, h2, h3, h4⟩ := h
  have hnw : w ∉ names := fun hh => by rw [(h3 w).mp hh] at hn; cases hn
  refine ⟨?_, fun u hu => ?_, fun u => ?_, ?_⟩
  · rw [List.nodup_append]
    exact ⟨h1, by simp, fun a ha b hb e => by rw [List.mem_singleton] at hb; subst hb; subst e; exact hnw ha⟩
  · rcases List.mem_append.mp hu with hu | hu
    · exact h2 u hu
    · rw [List.mem_singleton] at hu
      subst hu
      exact hw
  · rw [List.mem_append, List.mem_singleton]
    by_cases e : u = w
    · subst e
      rw [valD_put_same]
      simp
    · rw [valD_put_other _ _ (fun z => e (by cases z; rfl)), ← h3 u]
      simp [e]
  · have := WM.putKV_len kvs (.s w) v
    rw [List.length_append, List.length_singleton]
    omega
def S_end_moves : List Dat → (Dat → Prop) → Prop := fun ds R => ∃ (sg : W) (rs : List Rl), ds = [.str sg, rulesD rs] ∧ rs.length ≤ 64 ∧ Good rs ∧ sg.length ≤ 8 ∧ ∀ x, R x
theorem ok_end_moves (T : Tx P K mg a) : FnOk P wd K mg base CX0 2 a.f_end_moves a.d_end_moves ["signs", "rules"] (spF K S_end_moves) :=
  okF T.F_end_moves sc_end_moves (fun ds R h => by obtain ⟨sg, rs, rfl, h1, g, h2, hR⟩ := h; rfl) fun cdv A outer s H E hr => by
  refine ⟨_, (pss_cons (ps_setLc (i := 2) (own := [("rule", 11)]) rfl sc_end_moves.nd rfl rfl (sw_true rfl rfl rfl (by decide +kernel)) (pi_tup (pv 1)) (blkOk_by (own := [("rule", 11)]) (N := N_end_moves) (sc := defScope s_end_moves) (by decide +kernel)) (fun _ _ _ _ _ => (pg_name (i := 11) sc_end_moves.nd rfl (Or.inl rfl))) (fun _ _ _ _ _ => pts_nil) (fun _ _ _ _ _ => (pe_ix (kIxT K rfl) (pv 11) pe_int (fun _ _ => rfl))))
 (pss_cons (ps_set (i := 3) sc_end_moves.nd rfl (Or.inl rfl) (pe_lst (pa_cons pe_str pa_nil)))
 (pss_cons (ps_set (i := 4) sc_end_moves.nd rfl (Or.inl rfl) (pe_disp (pps_cons pe_str pe_int pps_nil) (by rfl) (by rfl) (fun z => by cases z) (by decide)))
 (pss_cons (ps_set (i := 5) sc_end_moves.nd rfl (Or.inl rfl) (pe_lst pa_nil))
 (pss_cons (ps_set (i := 6) sc_end_moves.nd rfl (Or.inl rfl) (pe_call (ok_longest_left T) (hr.mono (by decide)) (by rfl) T.g_longest_left T.k_longest_left T.b_longest_left .nil pass0 (pa_cons (pv 1) pa_nil)))
 (pss_cons (ps_while PassesOwn.never (pt_cmpR op_lt (pe_callB (kLen K rfl) (by rfl) T.n_len (by decide +kernel) (pa_cons (pv 5) pa_nil)) (pe_callB (kLen K rfl) (by rfl) T.n_len (by decide +kernel) (pa_cons (pv 3) pa_nil)) (nomark _))
  (pss_cons (ps_set (i := 7) sc_end_moves.nd rfl (Or.inl rfl) pe_dnewK)
 (pss_cons (ps_for PassesOwn.never rfl (pi_str (pv 0)) (pg_name (i := 8) sc_end_moves.nd rfl (Or.inl rfl))
  (pss_cons (ps_set (i := 9) sc_end_moves.nd rfl (Or.inr rfl) (pe_op op_addS (pe_ix (kIxL K rfl) (pv 3) (pe_callB (kLen K rfl) (by rfl) T.n_len (by decide +kernel) (pa_cons (pv 5) pa_nil)) (fun _ _ => rfl)) (pv 8)))
 (pss_one (ps_if (pt_not (pt_val (pe_callB (cr_any rfl) (by rfl) T.n_any (by decide +kernel) (pa_cons (pe_lc (own := [("left", 12)]) rfl sc_end_moves.nd (pi_list (pv 2)) (blkOk_by (own := [("left", 12)]) (N := N_end_moves) (sc := defScope s_end_moves) (by decide +kernel)) (fun _ _ _ _ _ => (pg_name (i := 12) sc_end_moves.nd rfl (Or.inl rfl))) (fun _ _ _ _ _ => pts_nil) (fun _ _ _ _ _ => (pe_m1 PySem.F.slot_str_endswith PySem.F.type_str_endswith mt_endswith_ (pv 9) (pv 12)))) pa_nil))))
  (pss_cons (ps_set (i := 10) sc_end_moves.nd rfl (Or.inl rfl) (pe_call (ok_kept_tail T) (hr.mono (by decide)) (by rfl) T.g_kept_tail T.k_kept_tail T.b_kept_tail .nil pass0 (pa_cons (pv 2) (pa_cons (pv 6) (pa_cons (pv 9) pa_nil)))))
 (pss_cons (ps_if (pt_cmp (pc_dnotin (hu_of hr) (pv 10) (pv 4)))
  (pss_cons (ps_dput (hu_of hr) (pv 4) (pv 10) (pe_callB (kLen K rfl) (by rfl) T.n_len (by decide +kernel) (pa_cons (pv 3) pa_nil)) rfl)
 (pss_one (ps_expr (pe_bm PySem.F.plainAttrs_list PySem.F.slot_list_append PySem.F.type_list_append mt_append (pv 3) (pa_cons (pv 10) pa_nil)))))
  pss_nil)
 (pss_one (ps_dput (hu_of hr) (pv 7) (pv 8) (pe_dget (hu_of hr) (pv 4) (pv 10) (fun _ _ => rfl)) rfl))))
  pss_nil))))
 (pss_one (ps_expr (pe_bm PySem.F.plainAttrs_list PySem.F.slot_list_append PySem.F.type_list_append mt_append (pv 5) (pa_cons (pv 7) pa_nil)))))))
 (pss_one (ps_ret (pv 5))))))))), fun ds R h => ?_⟩
  obtain ⟨sg, rs, rfl, h1, g, h2, hR⟩ := h
  walk_at "start"
  have hlg := longest_good g
  walk_at "w"
  refine g_lcF ruleD (fun r => Dat.str r.1) (np1 (by rfl) fun _ => rfl) ?_
  walk_at "w"
  refine ⟨rs, rfl, by omega, fun r hr => ?_, ?_⟩
  · dsimp only [wipeS, List.set]
    walk_at "w"
    rfl
  have hls : rs.map (fun r => Dat.str r.1) = (rs.map (·.1)).map Dat.str := by rw [List.map_map]; rfl
  rw [hls]
  generalize hlf : rs.map (·.1) = ls
  walk_at "w"
  refine ⟨rs, rfl, by omega, fun r hr => by have := g r hr; omega, ?_⟩
  walk_at "w"
  have hls3 : ∀ l ∈ ls, l.length ≤ 4 := fun l hl => by
    rw [← hlf] at hl
    obtain ⟨r, hr, rfl⟩ := List.mem_map.mp hl
    exact (g r hr).2.1
  have hlsn : ls.length ≤ 64 := by rw [← hlf, List.length_map]; exact h1
  refine run_while (fun m ρ' => ∃ (names : List W) (kvs : List (DKey × Dat)) (ms : List Dat) (s7 s8 s9 s10 : Slot), ρ' = [.d (.str sg), .d (rulesD rs), .d (.lst (ls.map Dat.str)), .own (names.map Dat.str), .od kvs, .own ms, .d (.int (longest rs : Int)), s7, s8, s9, s10, .no, .no] ∧ Tails sg names kvs ∧ ms.length ≤ names.length ∧ m = 1000 - ms.length) _ ⟨[[]], _, [], _, _, _, _, rfl, Tails.start sg, Nat.zero_le _, rfl⟩ fun m ρ' hw => ?_
  obtain ⟨names, kvs, ms, s7, s8, s9, s10, rfl, ht, hms, rfl⟩ := hw
  have hb : names.length ≤ 585 := Nat.le_trans (inW_le (k := 8) h2 ht.1 ht.2.1) (by decide)
  walk_at "w"
  refine BV.c_dec (fun hlt => ?_) fun hlt => ?_
  · rw [List.length_map] at hlt
    walk_at "w"
    have hsg := h2
    refine ⟨fun i ρ' => ∃ (names : List W) (kvs row : List (DKey × Dat)) (s8 s9 s10 : Slot), ρ' = [.d (.str sg), .d (rulesD rs), .d (.lst (ls.map Dat.str)), .own (names.map Dat.str), .od kvs, .own ms, .d (.int (longest rs : Int)), .od row, s8, s9, s10, .no, .no] ∧ Tails sg names kvs ∧ ms.length < names.length ∧ row.length ≤ i, ⟨names, kvs, [], _, _, _, rfl, ht, by omega, Nat.zero_le _⟩, fun i x ρ' hx hw => ?_, fun ρ' hw => ?_⟩
    · obtain ⟨names, kvs, row, s8, s9, s10, rfl, ht, hms, hrow⟩ := hw
      have hb : names.length ≤ 585 := Nat.le_trans (inW_le (k := 8) h2 ht.1 ht.2.1) (by decide)
      obtain ⟨c, hc, rfl⟩ := map_get hx
      have hcs := List.mem_of_getElem? hc
      have hi := get_lt hc
      have hn0 : names[ms.length]? = some names[ms.length] := List.getElem?_eq_getElem hms
      have hnw := ht.2.1 _ (List.getElem_mem hms)
      generalize names[ms.length] = nm at hn0 hnw
      have hn1 := hnw.1
      walk_at "w"
      refine ⟨_, _, rfl, at_map hn0, ?_⟩
      walk_at "w"
      refine g_lcB Dat.str (fun l => endsW (nm ++ [c]) l) (np1 (by rfl) fun _ => rfl) ?_
      walk_at "w"
      refine ⟨ls, rfl, by omega, fun l hl => ?_, ?_⟩
      · have := hls3 l hl
        dsimp only [wipeS, List.set]
        walk_at "w"
        rfl
      · walk_at "w"
        refine oc_any ?_
        walk_at "w"
        have hw4 : ∀ d ∈ nm ++ [c], d ∈ sg := fun d hd => by
          rcases List.mem_append.mp hd with hd | hd
          · exact hnw.2 d hd
          · rw [List.mem_singleton] at hd
            subst hd
            exact hcs
        refine ⟨fun _ => ?_, fun _ => ?_⟩
        · walk_at "w"
          refine ⟨ls, longest rs, nm ++ [c], rfl, by omega, by rw [List.length_append, List.length_singleton]; omega, fun l hl => by have := hls3 l hl; omega, hlg, fun k hk hk2 => ?_⟩
          have htl := inW_drop (n := 3) hw4 hk
          have hk5 := ht.2.2.2
          generalize (nm ++ [c]).drop ((nm ++ [c]).length - k) = tl at htl
          walk_at "w"
          cases e : (valD kvs (.s tl)).isSome with
          | true =>
            obtain ⟨v, hv⟩ := Option.isSome_iff_exists.mp e
            walk_at "w"
            refine ⟨_, v, .s tl, hv, ?_⟩
            have hrl := WM.putKV_len row (.s [c]) v
            walk_at "w"
            exact ⟨names, kvs, _, _, _, _, rfl, ht, hms, by omega⟩
          | false =>
            walk_at "w"
            have ht2 := ht.new htl e (.int (names.length : Int))
            have hps := valD_put_same kvs (.s tl) (.int (names.length : Int))
            rw [List.length_map]
            walk_at "w"
            refine ⟨_, _, .s tl, hps, ?_⟩
            have hrl := WM.putKV_len row (.s [c]) (.int (names.length : Int))
            walk_at "w"
            exact ⟨names ++ [tl], _, _, _, _, _, by dsimp only [List.set]; rw [List.map_append]; rfl, ht2, by rw [List.length_append, List.length_singleton]; omega, by omega⟩
        · walk_at "w"
          exact ⟨names, kvs, row, _, _, _, rfl, ht, hms, by omega⟩
    · obtain ⟨names, kvs, row, s8, s9, s10, rfl, ht, hms, hrow⟩ := hw
      refine run_frz (i := 7) rfl (.inr (.inl ⟨_, rfl, rfl⟩)) ?_
      walk_at "w"
      have hb : names.length ≤ 585 := Nat.le_trans (inW_le (k := 8) h2 ht.1 ht.2.1) (by decide)
      exact ⟨_, by rw [List.length_append, List.length_singleton]; omega, names, kvs, _, _, _, _, _, rfl, ht, by rw [List.length_append, List.length_singleton]; omega, rfl⟩
  · walk_at "w"
    exact hR _

end

section
variable {P : Program} {wd : World} {K : PySem.W.Frag} {mg : Str → Option Value} {base : Heap} {a : Ad}
def RuleOk (sg : W) (r : Rl) : Prop := (r.2.length < r.1.length ∧ r.1.length ≤ 4 ∧ r.2.length ≤ 1) ∧ (∀ c ∈ r.1, c ∈ sg) ∧ ∀ c ∈ r.2, c ∈ sg
theorem toP_rule (r : Rl) : toP (ruleD r) = .tuple [.str (S r.1), .str (S r.2)] := rfl
theorem eqv_rule (r q : Rl) : PyData.eqv (toP (ruleD r)) (toP (ruleD q)) = decide (r = q) := by
  rw [toP_rule, toP_rule]
  show PyData.eqv (.tuple [.str (S r.1), .str (S r.2)]) (.tuple [.str (S q.1), .str (S q.2)]) = _
  simp only [PyData.eqv, PyData.eqvAll, S_beq, Bool.and_true]
  obtain ⟨a, b⟩ := r
  obtain ⟨c, d⟩ := q
  by_cases h1 : a = c
  · by_cases h2 : b = d
    · subst h1; subst h2; simp
    · simp [h1, h2]
  · simp [h1]
theorem any_rules (rs : List Rl) (r : Rl) : ((toPs (rs.map ruleD)).any fun z => PyData.eqv z (toP (ruleD r))) = decide (r ∈ rs) := by
  rw [toPs_map, List.any_map]
  by_cases h : r ∈ rs
  · rw [decide_eq_true h, List.any_eq_true]
    exact ⟨r, h, by show PyData.eqv _ _ = true; rw [eqv_rule]; simp⟩
  · rw [decide_eq_false h, List.any_eq_false]
    intro x hx
    show ¬ PyData.eqv _ _ = true
    rw [eqv_rule, decide_eq_true_eq]
    exact fun e => h (e ▸ hx)
def RLw (r : Rl) : Prop := Lw r.1 ∧ Lw r.2
theorem can_rule {r : Rl} (h : RLw r) : PyData.canLay0 (toP (ruleD r)) = true := by
  rw [toP_rule]
  simp only [PyData.canLay0, PyData.canLayAll0, strOk_S h.1, strOk_S h.2, Bool.and_true]
theorem dep_rule (r : Rl) : PyData.depth (toP (ruleD r)) = 1 := by
  rw [toP_rule]
  simp [PyData.depth, PyData.depthAll]
theorem shp_rule {r : Rl} (h : RLw r) : shp (ruleD r) = true := by
  unfold shp SeqAt.shaped
  rw [can_rule h, dep_rule]
  rfl
theorem pln_rules : ∀ rs : List Rl, plnL (rs.map ruleD) = true
  | [] => rfl
  | r :: rs => by
    show (pln (ruleD r) && plnL (rs.map ruleD)) = true
    rw [pln_rules rs]
    rfl
theorem can_rules : ∀ {rs : List Rl}, (∀ r ∈ rs, RLw r) → PyData.canLayAll0 (toPs (rs.map ruleD)) = true ∧ PyData.depthAll (toPs (rs.map ruleD)) ≤ 1
  | [], _ => ⟨rfl, by decide⟩
  | r :: rs, h => by
    obtain ⟨h1, h2⟩ := can_rules (fun q hq => h q (List.mem_cons_of_mem _ hq))
    show PyData.canLayAll0 (toP (ruleD r) :: toPs (rs.map ruleD)) = true ∧ PyData.depthAll (toP (ruleD r) :: toPs (rs.map ruleD)) ≤ 1
    simp only [PyData.canLayAll0, PyData.depthAll, h1, can_rule (h r List.mem_cons_self), Bool.and_true, dep_rule]
    exact ⟨trivial, by omega⟩
theorem shp_rules {rs : List Rl} (h : ∀ r ∈ rs, RLw r) : shp (.lst (rs.map ruleD)) = true := by
  obtain ⟨h1, h2⟩ := can_rules h
  unfold shp SeqAt.shaped
  rw [Bool.and_eq_true, Bool.and_eq_true]
  refine ⟨pln_rules rs, ?_, ?_⟩
  · show PyData.canLay0 (.list _) = true
    simp only [PyData.canLay0]
    exact h1
  · refine decide_eq_true ?_
    show PyData.depth (.list _) ≤ 64
    simp only [PyData.depth]
    omega
theorem SgOk.lw {sg w : W} (h : SgOk sg) (hw : ∀ c ∈ w, c ∈ sg) : Lw w := fun c hc => by
  obtain ⟨i, hi, e⟩ := List.getElem_of_mem (hw c hc)
  have := (h.2.2 i hi).2.1
  omega
theorem RuleOk.lw {sg : W} {r : Rl} (h : SgOk sg) (hr : RuleOk sg r) : RLw r := ⟨h.lw hr.2.1, h.lw hr.2.2⟩
def S_is_rule : List Dat → (Dat → Prop) → Prop := fun ds R => ∃ (sg : W) (r : Rl), ds = [.str sg, ruleD r] ∧ sg.length ≤ 8 ∧ RuleOk sg r ∧ R (.bl true)
theorem ok_is_rule (T : Tx P K mg a) : FnOk P wd K mg base CX0 2 a.f_is_rule a.d_is_rule ["signs", "thing"] (spF K S_is_rule) :=
  okF T.F_is_rule sc_is_rule (fun ds R h => by obtain ⟨sg, r, rfl, hs, ⟨⟨h1, h2, h3⟩, h4, h5⟩, hR⟩ := h; rfl) fun cdv A outer s H E hr => by
  refine ⟨_, (pss_cons (ps_if (PW.pt (pw_or (pt_not (pt_val (pe_call (ok_is_listed T) (hr.mono (by decide)) (by rfl) T.g_is_listed T.k_is_listed T.b_is_listed .nil pass0 (pa_cons (pv 1) pa_nil)))) (pw_or1 (pt_cmpR op_ne (pe_callB (kLen K rfl) (by rfl) T.n_len (by decide +kernel) (pa_cons (pv 1) pa_nil)) pe_int (nomark _)))))
  (pss_one (ps_ret pe_bl))
  pss_nil)
 (pss_cons (ps_if (PW.pt (pw_or (pt_not (pt_val (pe_call (ok_is_text T) (hr.mono (by decide)) (by rfl) T.g_is_text T.k_is_text T.b_is_text .nil pass0 (pa_cons (pv 0) (pa_cons (pe_ix (kIxT K rfl) (pv 1) pe_int (fun _ _ => rfl)) (pa_cons pe_int (pa_cons (pe_glob (v := .int 4) rfl T.c_LONGEST_LEFT ⟨_, rfl⟩) pa_nil))))))) (pw_or1 (pt_not (pt_val (pe_call (ok_is_text T) (hr.mono (by decide)) (by rfl) T.g_is_text T.k_is_text T.b_is_text .nil pass0 (pa_cons (pv 0) (pa_cons (pe_ix (kIxT K rfl) (pv 1) pe_int (fun _ _ => rfl)) (pa_cons pe_int (pa_cons pe_int pa_nil))))))))))
  (pss_one (ps_ret pe_bl))
  pss_nil)
 (pss_one (ps_ret (pe_cmpR op_lt (pe_callB (kLen K rfl) (by rfl) T.n_len (by decide +kernel) (pa_cons (pe_ix (kIxT K rfl) (pv 1) pe_int (fun _ _ => rfl)) pa_nil)) (pe_callB (kLen K rfl) (by rfl) T.n_len (by decide +kernel) (pa_cons (pe_ix (kIxT K rfl) (pv 1) pe_int (fun _ _ => rfl)) pa_nil)) (nomark _)))))), fun ds R h => ?_⟩
  obtain ⟨sg, r, rfl, hs, ⟨⟨h1, h2, h3⟩, h4, h5⟩, hR⟩ := h
  walk_at "start"
  walk_at "w"
  refine ⟨_, rfl, .inl ⟨.inl ⟨_, rfl⟩, ?_⟩⟩
  walk_at "w"
  refine ⟨sg, .str r.1, 1, 4, rfl, by omega, .inr (.inr (.inr ⟨_, rfl, by omega⟩)), ?_⟩
  rw [isTx_yes (by omega) (by omega) h4]
  walk_at "w"
  refine ⟨sg, .str r.2, 0, 1, rfl, by omega, .inr (.inr (.inr ⟨_, rfl, by omega⟩)), ?_⟩
  rw [isTx_yes (by omega) (by omega) h5]
  walk_at "w"
  rw [decide_eq_true (by omega)]
  exact hR
/-- a book's rules -/
def RsOk (sg : W) (rs : List Rl) : Prop := rs.length ≤ 64 ∧ rs.Nodup ∧ ∀ r ∈ rs, RuleOk sg r
theorem RsOk.good {sg : W} {rs : List Rl} (h : RsOk sg rs) : Good rs := fun r hr => (h.2.2 r hr).1
def S_checked_rules : List Dat → (Dat → Prop) → Prop := fun ds R => ∃ (sg : W) (rs : List Rl), ds = [.str sg, rulesD rs] ∧ SgOk sg ∧ RsOk sg rs ∧ R (rulesD rs)
theorem ok_checked_rules (T : Tx P K mg a) : FnOk P wd K mg base CX0 3 a.f_checked_rules a.d_checked_rules ["signs", "thing"] (spF K S_checked_rules) :=
  okF T.F_checked_rules sc_checked_rules (fun ds R h => by obtain ⟨sg, rs, rfl, hs, ⟨h1, h2, h3⟩, hR⟩ := h; rfl) fun cdv A outer s H E hr => by
  refine ⟨_, (pss_cons (ps_if (PW.pt (pw_or (pt_not (pt_val (pe_call (ok_is_listed T) (hr.mono (by decide)) (by rfl) T.g_is_listed T.k_is_listed T.b_is_listed .nil pass0 (pa_cons (pv 1) pa_nil)))) (pw_or1 (pt_cmpR op_gt (pe_callB (kLen K rfl) (by rfl) T.n_len (by decide +kernel) (pa_cons (pv 1) pa_nil)) (pe_glob (v := .int 64) rfl T.c_MOST_RULES ⟨_, rfl⟩) (nomark _)))))
  (pss_one (ps_never))
  pss_nil)
 (pss_cons (ps_set (i := 2) sc_checked_rules.nd rfl (Or.inl rfl) (pe_lst pa_nil))
 (pss_cons (ps_for PassesOwn.never rfl (pi_range1 rfl T.n_range (pa_cons (pe_callB (kLen K rfl) (by rfl) T.n_len (by decide +kernel) (pa_cons (pv 1) pa_nil)) pa_nil)) (pg_name (i := 3) sc_checked_rules.nd rfl (Or.inl rfl))
  (pss_cons (ps_if (PW.pt (pw_or (pt_not (pt_val (pe_call (ok_is_rule T) (hr.mono (by decide)) (by rfl) T.g_is_rule T.k_is_rule T.b_is_rule .nil pass0 (pa_cons (pv 0) (pa_cons (pe_ix (kIxT K rfl) (pv 1) (pv 3) (fun _ _ => rfl)) pa_nil))))) (pw_or1 (pt_cmpR (kInD K rfl (units65 hr)) (pe_callTy (kTupOf K rfl) (by rfl) T.n_tuple (by decide +kernel) (pa_cons (pe_ix (kIxT K rfl) (pv 1) (pv 3) (fun _ _ => rfl)) pa_nil)) (pv 2) (by rfl)))))
  (pss_one (ps_never))
  pss_nil)
 (pss_one (ps_expr (pe_bm PySem.F.plainAttrs_list PySem.F.slot_list_append PySem.F.type_list_append mt_append (pv 2) (pa_cons (pe_callTy (kTupOf K rfl) (by rfl) T.n_tuple (by decide +kernel) (pa_cons (pe_ix (kIxT K rfl) (pv 1) (pv 3) (fun _ _ => rfl)) pa_nil)) pa_nil))))))
 (pss_one (ps_ret (pe_callTy (kTupOf K rfl) (by rfl) T.n_tuple (by decide +kernel) (pa_cons (pv 2) pa_nil))))))), fun ds R h => ?_⟩
  obtain ⟨sg, rs, rfl, hs, ⟨h1, h2, h3⟩, hR⟩ := h
  walk_at "start"
  walk_at "w"
  refine ⟨_, rfl, .inl ⟨.inl ⟨_, rfl⟩, ?_⟩⟩
  have hll : (rs.map ruleD).length ≤ 64 := by rw [List.length_map]; exact h1
  walk_at "w"
  refine ⟨fun i ρ' => ∃ s3, ρ' = [.d (.str sg), .d (.tup (rs.map ruleD)), .own ((rs.take i).map ruleD), s3], ⟨_, rfl⟩, fun i x ρ' hx hw => ?_, fun ρ' hw => ?_⟩
  · obtain ⟨s3, rfl⟩ := hw
    obtain ⟨hi, rfl⟩ := rng0_get hx
    rw [Int.toNat_natCast, List.length_map] at hi
    have hl : rs[i]? = some rs[i] := List.getElem?_eq_getElem hi
    have gl := h3 rs[i] (List.getElem_mem hi)
    have hnot : rs[i] ∉ rs.take i := by
      intro hm
      have h := h2
      rw [← List.take_append_drop i rs, List.nodup_append] at h
      exact h.2.2 _ hm _ (List.mem_of_getElem? (i := 0) (by rw [List.getElem?_drop, Nat.add_zero]; exact hl)) rfl
    generalize rs[i] = r at hl gl hnot
    walk_at "w"
    refine ⟨sg, r, rfl, hs.2.1, gl, ?_⟩
    walk_at "w"
    refine o2_inD (shp_rule (gl.lw hs)) (shp_rules fun q hq => (h3 q (List.mem_of_mem_take hq)).lw hs) ?_
    rw [any_rules]
    walk_at "w"
    have hlt : ((rs.take i).map ruleD).length < 1000000 := by rw [List.length_map, List.length_take]; omega
    walk_at "w"
    exact ⟨_, by dsimp only [List.set]; rw [take_snoc hl, List.map_append]; rfl⟩
  · obtain ⟨s3, rfl⟩ := hw
    rw [rngI_len, Int.toNat_natCast, List.length_map, List.take_length]
    walk_at "w"
    exact hR
theorem ov_steps {rs : List Rl} {t : W} {i j p : Nat} {l r : Rl} (hl : rs[i]? = some l) (hr : rs[j]? = some r) (hp : p < l.1.length) (ht : t = l.1 ++ r.1.drop (min (l.1.length - p) r.1.length))
    (hm : (l.1.drop p).take (min (l.1.length - p) r.1.length) = r.1.take (min (l.1.length - p) r.1.length)) : Stp rs t (l.2 ++ t.drop l.1.length) ∧ Stp rs t (t.take p ++ r.2 ++ t.drop (p + r.1.length)) := by
  constructor
  · exact ⟨[], t.drop l.1.length, l, List.mem_of_getElem? hl, by rw [ht, List.drop_left]; simp, by simp⟩
  · refine ⟨t.take p, t.drop (p + r.1.length), r, List.mem_of_getElem? hr, ?_, rfl⟩
    have e1 : t.drop p = l.1.drop p ++ r.1.drop (min (l.1.length - p) r.1.length) := by rw [ht, List.drop_append_of_le_length (by omega)]
    have e2 : (t.drop p).take r.1.length = r.1 := by
      rw [e1]
      by_cases h : r.1.length ≤ l.1.length - p
      · rw [Nat.min_eq_right h, List.take_length] at hm
        rw [Nat.min_eq_right h, List.drop_length, List.append_nil]
        exact hm
      · rw [Nat.min_eq_left (by omega)] at hm ⊢
        rw [List.take_of_length_le (by rw [List.length_drop]; omega)] at hm
        rw [hm, List.take_append_drop, List.take_length]
    conv => lhs; rw [← List.take_append_drop p t, ← List.take_append_drop r.1.length (t.drop p), e2, List.drop_drop]
    rw [List.append_assoc]
def S_quarrel_of : List Dat → (Dat → Prop) → Prop := fun ds R => ∃ (rs : List Rl), ds = [rulesD rs, .dk (firstR rs), .int (longest rs : Int)] ∧ Good rs ∧ rs.length ≤ 64 ∧ ∀ o : Option W, LeastQ rs o → R (optS o)
theorem ok_quarrel_of (T : Tx P K mg a) : FnOk P wd K mg base CX0 3 a.f_quarrel_of a.d_quarrel_of ["rules", "lefts", "longest"] (spF K S_quarrel_of) :=
  okF T.F_quarrel_of sc_quarrel_of (fun ds R h => by obtain ⟨rs, rfl, g, h1, hR⟩ := h; rfl) fun cdv A outer s H E hr => by
  refine ⟨_, (pss_cons (ps_set (i := 3) sc_quarrel_of.nd rfl (Or.inl rfl) pe_non)
 (pss_cons (ps_for PassesOwn.never rfl (pi_list (pe_call (ok_overlap_rows T) (hr.mono (by decide)) (by rfl) T.g_overlap_rows T.k_overlap_rows T.b_overlap_rows .nil pass0 (pa_cons (pv 0) pa_nil))) (pg_name (i := 4) sc_quarrel_of.nd rfl (Or.inl rfl))
  (pss_one (ps_if (PW.pt (pw_or (pt_cmpR op_isN_ (pv 3) pe_non (nomark _)) (pw_or1 (pt_cmpR (kLtD K rfl hr.units) (pe_call (ok_text_key T) (hr.mono (by decide)) (by rfl) T.g_text_key T.k_text_key T.b_text_key .nil pass0 (pa_cons (pe_ix (kIxT K rfl) (pv 4) pe_int (fun _ _ => rfl)) pa_nil)) (pe_call (ok_text_key T) (hr.mono (by decide)) (by rfl) T.g_text_key T.k_text_key T.b_text_key .nil pass0 (pa_cons (pv 3) pa_nil)) (nomark _)))))
  (pss_cons (ps_asg (pe_call (ok_both_results T) (hr.mono (by decide)) (by rfl) T.g_both_results T.k_both_results T.b_both_results .nil pass0 (pa_cons (pv 0) (pa_cons (pv 4) pa_nil))) (pg_tup rfl (pgs_cons (pg_name (i := 5) sc_quarrel_of.nd rfl (Or.inl rfl)) (pgs_cons (pg_name (i := 6) sc_quarrel_of.nd rfl (Or.inl rfl)) pgs_nil))))
 (pss_one (ps_if (pt_cmpR op_ne (pe_call (ok_left_over T) (hr.mono (by decide)) (by rfl) T.g_left_over T.k_left_over T.b_left_over .nil pass0 (pa_cons (pv 1) (pa_cons (pv 2) (pa_cons (pv 5) pa_nil)))) (pe_call (ok_left_over T) (hr.mono (by decide)) (by rfl) T.g_left_over T.k_left_over T.b_left_over .nil pass0 (pa_cons (pv 1) (pa_cons (pv 2) (pa_cons (pv 6) pa_nil)))) (nomark _))
  (pss_one (ps_set (i := 3) sc_quarrel_of.nd rfl (Or.inl rfl) (pe_ix (kIxT K rfl) (pv 4) pe_int (fun _ _ => rfl))))
  pss_nil)))
  pss_nil)))
 (pss_one (ps_ret (pv 3))))), fun ds R h => ?_⟩
  obtain ⟨rs, rfl, g, h1, hR⟩ := h
  walk_at "start"
  walk_at "w"
  refine ⟨rs, rfl, h1, g, ?_⟩
  walk_at "w"
  refine ⟨fun i ρ' => ∃ (o : Option W) (s4 s5 s6 : Slot), ρ' = [.d (rulesD rs), .d (.dk (firstR rs)), .d (.int (longest rs : Int)), .d (optS o), s4, s5, s6] ∧ QI rs ((ovs rs).take i) o, ⟨none, _, _, _, rfl, QI.nil rs⟩, fun i x ρ' hx hw => ?_, fun ρ' hw => ?_⟩
  · obtain ⟨o, s4, s5, s6, rfl, hq⟩ := hw
    obtain ⟨v, hv, rfl⟩ := map_get hx
    have hvm := List.mem_of_getElem? hv
    obtain ⟨l, r, hl, hr2, hp, ht, hm⟩ := ov_is hvm
    have gl := g l (List.mem_of_getElem? hl)
    have gr := g r (List.mem_of_getElem? hr2)
    have hvl : v.t.length ≤ 8 := by rw [ht, List.length_append, List.length_drop]; omega
    have hun : WM.Un rs v ↔ left rs (l.2 ++ v.t.drop l.1.length) ≠ left rs (v.t.take v.p ++ r.2 ++ v.t.drop (v.p + r.1.length)) := by
      unfold WM.Un side1 side2
      rw [hl, hr2]
    have lx : (l.2 ++ v.t.drop l.1.length).length ≤ 50000 := by simp only [List.length_append, List.length_drop]; omega
    have ly : (v.t.take v.p ++ r.2 ++ v.t.drop (v.p + r.1.length)).length ≤ 50000 := by simp only [List.length_append, List.length_drop, List.length_take]; omega
    cases o with
    | none =>
      walk_at "w"
      refine ⟨rs, v, l, r, rfl, hl, hr2, by omega, g, ?_⟩
      walk_at "w"
      refine ⟨rs, _, rfl, g, lx, ?_⟩
      walk_at "w"
      refine ⟨rs, _, rfl, g, ly, ?_⟩
      walk_at "w"
      refine BV.c_nec (fun hne => ?_) fun hne => ?_
      · walk_at "w"
        exact ⟨some v.t, _, _, _, rfl, by rw [take_snoc hv]; exact hq.put hvm (hun.mpr hne) fun w hw => nomatch hw⟩
      · walk_at "w"
        exact ⟨_, _, _, _, rfl, by rw [take_snoc hv]; exact hq.keep fun hu => absurd hne (hun.mp hu)⟩
    | some w =>
      have hwl := hq.len g rfl
      walk_at "w"
      refine ⟨v.t, rfl, by omega, ?_⟩
      walk_at "w"
      refine ⟨w, rfl, by omega, ?_⟩
      walk_at "w"
      refine ⟨fun hk => ?_, fun hk => ?_⟩
      · walk_at "w"
        refine ⟨rs, v, l, r, rfl, hl, hr2, by omega, g, ?_⟩
        walk_at "w"
        refine ⟨rs, _, rfl, g, lx, ?_⟩
        walk_at "w"
        refine ⟨rs, _, rfl, g, ly, ?_⟩
        walk_at "w"
        refine BV.c_nec (fun hne => ?_) fun hne => ?_
        · walk_at "w"
          exact ⟨some v.t, _, _, _, rfl, by rw [take_snoc hv]; exact hq.put hvm (hun.mpr hne) fun w' hw => by cases hw; exact hk⟩
        · walk_at "w"
          exact ⟨_, _, _, _, rfl, by rw [take_snoc hv]; exact hq.keep fun hu => absurd hne (hun.mp hu)⟩
      · walk_at "w"
        exact ⟨some w, _, _, _, rfl, by rw [take_snoc hv]; exact hq.keep fun _ => ⟨w, rfl, hk⟩⟩
  · obtain ⟨o, s4, s5, s6, rfl, hq⟩ := hw
    rw [List.length_map, List.take_length] at hq
    walk_at "w"
    exact hR o hq.least

end

section
variable {P : Program} {wd : World} {K : PySem.W.Frag} {mg : Str → Option Value} {base : Heap} {a : Ad}
def S_law_quarrel : List Dat → (Dat → Prop) → Prop := fun ds R => ∃ (rs : List Rl) (x : Dat), ds = [x] ∧ (x = .lst (rs.map ruleD) ∨ x = .tup (rs.map ruleD)) ∧ Good rs ∧ rs.length ≤ 1000 ∧ ∀ o : Option W, LawQ rs o → R (optS o)
def SeenI (rs : List Rl) (i : Nat) : Rl → Rl → Nat → Prop := fun l r p => l ∈ rs.take i ∧ r ∈ rs ∧ p < l.1.length
def SeenJ (rs : List Rl) (i : Nat) (l0 : Rl) (j : Nat) : Rl → Rl → Nat → Prop := fun l r p => SeenI rs i l r p ∨ (l = l0 ∧ r ∈ rs.take j ∧ p < l.1.length)
def SeenP (rs : List Rl) (i : Nat) (l0 : Rl) (j : Nat) (r0 : Rl) (n : Nat) : Rl → Rl → Nat → Prop := fun l r p => SeenJ rs i l0 j l r p ∨ (l = l0 ∧ r = r0 ∧ p < n)
theorem ok__law_quarrel (T : Tx P K mg a) : FnOk P wd K mg base CX0 2 a.f__law_quarrel a.d__law_quarrel ["rules"] (spF K S_law_quarrel) :=
  okF T.F__law_quarrel sc__law_quarrel (fun ds R h => by obtain ⟨rs, xr, rfl, hxr, g, hn, hR⟩ := h; rfl) fun cdv A outer s H E hr => by
  refine ⟨_, (pss_cons (ps_set (i := 1) sc__law_quarrel.nd rfl (Or.inl rfl) pe_non)
 (pss_cons (ps_for PassesOwn.never rfl (pi_sq (pv 0)) (pg_tup rfl (pgs_cons (pg_name (i := 2) sc__law_quarrel.nd rfl (Or.inl rfl)) (pgs_cons (pg_name (i := 3) sc__law_quarrel.nd rfl (Or.inl rfl)) pgs_nil)))
  (pss_one (ps_for PassesOwn.never rfl (pi_sq (pv 0)) (pg_tup rfl (pgs_cons (pg_name (i := 4) sc__law_quarrel.nd rfl (Or.inl rfl)) (pgs_cons (pg_name (i := 5) sc__law_quarrel.nd rfl (Or.inl rfl)) pgs_nil)))
  (pss_one (ps_for PassesOwn.never rfl (pi_range1 rfl T.n_range (pa_cons (pe_callB (kLen K rfl) (by rfl) T.n_len (by decide +kernel) (pa_cons (pv 2) pa_nil)) pa_nil)) (pg_name (i := 6) sc__law_quarrel.nd rfl (Or.inl rfl))
  (pss_cons (ps_set (i := 7) sc__law_quarrel.nd rfl (Or.inl rfl) (pe_callB (call_min2_ rfl) (by rfl) T.n_min (by decide +kernel) (pa_cons (pe_op op_sub (pe_callB (kLen K rfl) (by rfl) T.n_len (by decide +kernel) (pa_cons (pv 2) pa_nil)) (pv 6)) (pa_cons (pe_callB (kLen K rfl) (by rfl) T.n_len (by decide +kernel) (pa_cons (pv 4) pa_nil)) pa_nil))))
 (pss_cons (ps_set (i := 8) sc__law_quarrel.nd rfl (Or.inl rfl) (pe_op op_addS (pv 2) (pe_slice sl_str (pv 4) (po_some (pv 7)) po_none)))
 (pss_one (ps_if (PW.pt (pw_and (pt_cmpR op_eq (pe_slice sl_str (pv 2) (po_some (pv 6)) (po_some (pe_op op_add (pv 6) (pv 7)))) (pe_slice sl_str (pv 4) po_none (po_some (pv 7))) (nomark _)) (pw_and1 (PW.pt (pw_or (pt_cmpR op_isN_ (pv 1) pe_non (nomark _)) (pw_or1 (pt_cmpR (kLtD K rfl hr.units) (pe_call (ok__law_key T) (hr.mono (by decide)) (by rfl) T.g__law_key T.k__law_key T.b__law_key .nil pass0 (pa_cons (pv 8) pa_nil)) (pe_call (ok__law_key T) (hr.mono (by decide)) (by rfl) T.g__law_key T.k__law_key T.b__law_key .nil pass0 (pa_cons (pv 1) pa_nil)) (nomark _))))))))
  (pss_cons (ps_set (i := 9) sc__law_quarrel.nd rfl (Or.inl rfl) (pe_op op_addS (pe_op op_addS (pe_slice sl_str (pv 8) po_none (po_some (pv 6))) (pv 5)) (pe_slice sl_str (pv 8) (po_some (pe_op op_add (pv 6) (pe_callB (kLen K rfl) (by rfl) T.n_len (by decide +kernel) (pa_cons (pv 4) pa_nil)))) po_none)))
 (pss_one (ps_if (pt_cmpR op_ne (pe_call (ok__law_left T) (hr.mono (by decide)) (by rfl) T.g__law_left T.k__law_left T.b__law_left .nil pass0 (pa_cons (pv 0) (pa_cons (pe_op op_addS (pv 3) (pe_slice sl_str (pv 8) (po_some (pe_callB (kLen K rfl) (by rfl) T.n_len (by decide +kernel) (pa_cons (pv 2) pa_nil))) po_none)) pa_nil))) (pe_call (ok__law_left T) (hr.mono (by decide)) (by rfl) T.g__law_left T.k__law_left T.b__law_left .nil pass0 (pa_cons (pv 0) (pa_cons (pv 9) pa_nil))) (nomark _))
  (pss_one (ps_set (i := 1) sc__law_quarrel.nd rfl (Or.inl rfl) (pv 8)))
  pss_nil)))
  pss_nil)))))))))
 (pss_one (ps_ret (pv 1))))), fun ds R h => ?_⟩
  obtain ⟨rs, xr, rfl, hxr, g, hn, hR⟩ := h
  walk_at "start"
  walk_at "w"
  refine ⟨_, hxr, fun i ρ' => ∃ (o : Option W) (s2 s3 s4 s5 s6 s7 s8 s9 : Slot), ρ' = [.d xr, .d (optS o), s2, s3, s4, s5, s6, s7, s8, s9] ∧ LI rs (SeenI rs i) o, ⟨none, _, _, _, _, _, _, _, _, rfl, LI.nil rs fun l r p h => by simp [SeenI] at h⟩, fun i x ρ' hx hw => ?_, fun ρ' hw => ?_⟩
  · obtain ⟨o, s2, s3, s4, s5, s6, s7, s8, s9, rfl, ho⟩ := hw
    obtain ⟨l, hl, rfl⟩ := map_get hx
    have hlm := List.mem_of_getElem? hl
    have gl := g l hlm
    walk_at "w"
    refine ⟨_, hxr, fun j ρ' => ∃ (o : Option W) (s4 s5 s6 s7 s8 s9 : Slot), ρ' = [.d xr, .d (optS o), .d (.str l.1), .d (.str l.2), s4, s5, s6, s7, s8, s9] ∧ LI rs (SeenJ rs i l j) o, ⟨o, _, _, _, _, _, _, rfl, ho.sub fun l' r' p' h => by
      rcases h with h | ⟨_, h, _⟩
      · exact h
      · simp at h⟩, fun j y ρ' hy hw => ?_, fun ρ' hw => ?_⟩
    · obtain ⟨o, s4, s5, s6, s7, s8, s9, rfl, ho⟩ := hw
      obtain ⟨r, hr, rfl⟩ := map_get hy
      have hrm := List.mem_of_getElem? hr
      have gr := g r hrm
      walk_at "w"
      refine ⟨fun p ρ' => ∃ (o : Option W) (s6 s7 s8 s9 : Slot), ρ' = [.d xr, .d (optS o), .d (.str l.1), .d (.str l.2), .d (.str r.1), .d (.str r.2), s6, s7, s8, s9] ∧ LI rs (SeenP rs i l j r p) o, ⟨o, _, _, _, _, rfl, ho.sub fun l' r' p' h => by
        rcases h with h | ⟨_, _, h⟩
        · exact h
        · omega⟩, fun p z ρ' hz hw => ?_, fun ρ' hw => ?_⟩
      · obtain ⟨o, s6, s7, s8, s9, rfl, ho⟩ := hw
        obtain ⟨hp, rfl⟩ := rng0_get hz
        rw [Int.toNat_natCast] at hp
        have hsh : min ((l.1.length : Int) - (p : Int)) (r.1.length : Int) = ((min (l.1.length - p) r.1.length : Nat) : Int) := by omega
        have hs : ∀ l' r' p', SeenP rs i l j r (p + 1) l' r' p' → SeenP rs i l j r p l' r' p' ∨ (l' = l ∧ r' = r ∧ p' = p) := fun l' r' p' h => by
          rcases h with h | ⟨h1, h2, h3⟩
          · exact .inl (.inl h)
          · by_cases hqp : p' = p
            · exact .inr ⟨h1, h2, hqp⟩
            · exact .inl (.inr ⟨h1, h2, by omega⟩)
        have keep := fun k => ho.keep hs k
        have put := fun hm hu k => ho.put hs hlm hrm hp hm hu k
        have how : ∀ w, o = some w → w.length ≤ 8 := fun w e => ho.len g e
        walk_at "w"
        rw [hsh, cut_from _ (by omega), Int.toNat_natCast, cut_mid _ (by omega) (by omega), cut_to _ (by omega), Int.toNat_natCast, Int.toNat_natCast]
        unfold Mt mtU mtT at keep put
        generalize hm : min (l.1.length - p) r.1.length = m at keep put
        rw [show ((p : Int) + (m : Int)).toNat - p = m by omega]
        have ht : (l.1 ++ r.1.drop m).length ≤ 8 := by rw [List.length_append, List.length_drop]; omega
        generalize hte : l.1 ++ r.1.drop m = t at keep put ht
        refine BV.c_dec (fun he => ?_) fun he => ?_
        · have c1 := cut_le t none (some (p : Int))
          have c2 := cut_le t (some ((p : Int) + (r.1.length : Int))) none
          have c3 := cut_le t (some (l.1.length : Int)) none
          have lx : (l.2 ++ t.drop l.1.length).length ≤ 50000 := by simp only [List.length_append, List.length_drop]; omega
          have ly : (t.take p ++ r.2 ++ t.drop (p + r.1.length)).length ≤ 50000 := by simp only [List.length_append, List.length_drop, List.length_take]; omega
          cases o with
          | none =>
            walk_at "w"
            rw [cut_to _ (by omega), cut_from _ (by omega), cut_from _ (by omega), Int.toNat_natCast, Int.toNat_natCast, show ((p : Int) + (r.1.length : Int)).toNat = p + r.1.length by omega]
            refine ⟨rs, xr, _, rfl, hxr, g, hn, lx, ?_⟩
            walk_at "w"
            refine ⟨rs, xr, _, rfl, hxr, g, hn, ly, ?_⟩
            walk_at "w"
            refine BV.c_nec (fun hne => ?_) fun hne => ?_
            · walk_at "w"
              exact ⟨some t, _, _, _, _, rfl, put he hne fun w hw => nomatch hw⟩
            · walk_at "w"
              exact ⟨none, _, _, _, _, rfl, keep fun _ h => absurd hne h⟩
          | some w =>
            have hwl := how w rfl
            walk_at "w"
            refine ⟨t, rfl, by omega, ?_⟩
            walk_at "w"
            refine ⟨w, rfl, by omega, ?_⟩
            walk_at "w"
            refine ⟨fun hk => ?_, fun hk => ?_⟩
            · walk_at "w"
              rw [cut_to _ (by omega), cut_from _ (by omega), cut_from _ (by omega), Int.toNat_natCast, Int.toNat_natCast, show ((p : Int) + (r.1.length : Int)).toNat = p + r.1.length by omega]
              refine ⟨rs, xr, _, rfl, hxr, g, hn, lx, ?_⟩
              walk_at "w"
              refine ⟨rs, xr, _, rfl, hxr, g, hn, ly, ?_⟩
              walk_at "w"
              refine BV.c_nec (fun hne => ?_) fun hne => ?_
              · walk_at "w"
                exact ⟨some t, _, _, _, _, rfl, put he hne fun w' hw => by cases hw; exact hk⟩
              · walk_at "w"
                exact ⟨some w, _, _, _, _, rfl, keep fun _ h => absurd hne h⟩
            · walk_at "w"
              exact ⟨some w, _, _, _, _, rfl, keep fun _ _ => ⟨w, rfl, hk⟩⟩
        · walk_at "w"
          exact ⟨o, _, _, _, _, rfl, keep fun h => absurd h he⟩
      · obtain ⟨o, s6, s7, s8, s9, rfl, ho⟩ := hw
        rw [rngI_len, Int.toNat_natCast] at ho
        refine ⟨o, _, _, _, _, _, _, rfl, ho.sub fun l' r' p' h => ?_⟩
        rcases h with h | ⟨h1, h2, h3⟩
        · exact .inl (.inl h)
        · rw [take_snoc hr] at h2
          rcases List.mem_append.mp h2 with hq | hq
          · exact .inl (.inr ⟨h1, hq, h3⟩)
          · rw [List.mem_singleton] at hq
            exact .inr ⟨h1, hq, by rw [← h1]; exact h3⟩
    · obtain ⟨o, s4, s5, s6, s7, s8, s9, rfl, ho⟩ := hw
      rw [List.length_map] at ho
      refine ⟨o, _, _, _, _, _, _, _, _, rfl, ho.sub fun l' r' p' h => ?_⟩
      obtain ⟨h1, h2, h3⟩ := h
      rw [take_snoc hl] at h1
      rcases List.mem_append.mp h1 with hq | hq
      · exact .inl ⟨hq, h2, h3⟩
      · rw [List.mem_singleton] at hq
        exact .inr ⟨hq, by rw [List.take_length]; exact h2, h3⟩
  · obtain ⟨o, s2, s3, s4, s5, s6, s7, s8, s9, rfl, ho⟩ := hw
    rw [List.length_map] at ho
    walk_at "w"
    exact hR o (ho.law fun l hl r hr p hp => ⟨by rw [List.take_length]; exact hl, hr, hp⟩)

end

section
variable {P : Program} {wd : World} {K : PySem.W.Frag} {mg : Str → Option Value} {base : Heap} {a : Ad}
/-- the fields of a book -/
def bookF (sg : W) (rs : List Rl) (o : Option W) (mv : Dat) : List (Str × Dat) := [("signs", .str sg), ("rules", rulesD rs), ("_lefts", .dk (firstR rs)), ("_longest", .int (longest rs : Int)), ("_quarrel", optS o), ("_moves", mv)]
def S_init : List Dat → (List (Str × Dat) → Prop) → Prop := fun ds R => ∃ (sg : W) (rs : List Rl), ds = [.str sg, rulesD rs] ∧ SgOk sg ∧ RsOk sg rs ∧ ∀ o mv, LeastQ rs o → R (bookF sg rs o mv)
theorem ok_Booku_initu (T : Tx P K mg a) : FnOk P wd K mg base CX0 4 a.f_Booku_initu a.d_Booku_initu ["self", "signs", "rules"] (spI K a.C_Book S_init) :=
  okI T.F_Booku_initu sc_Booku_initu (fun ds R h => by obtain ⟨sg, rs, rfl, hs, hrs, hR⟩ := h; rfl) fun cdv A outer s H E hr => by
  refine ⟨_, (pss_cons (ps_expr (pe_call (ok_check_signs T) (hr.mono (by decide)) (by rfl) T.g_check_signs T.k_check_signs T.b_check_signs .nil pass0 (pa_cons (pv 1) pa_nil)))
 (pss_cons (ps_fld (pv 0) (pv 1) rfl)
 (pss_cons (ps_fld (pv 0) (pe_call (ok_checked_rules T) (hr.mono (by decide)) (by rfl) T.g_checked_rules T.k_checked_rules T.b_checked_rules .nil pass0 (pa_cons (pv 1) (pa_cons (pv 2) pa_nil))) rfl)
 (pss_cons (ps_fld (pv 0) (pe_call (ok_first_rules T) (hr.mono (by decide)) (by rfl) T.g_first_rules T.k_first_rules T.b_first_rules .nil pass0 (pa_cons (pe_fld (pv 0) rfl) pa_nil)) rfl)
 (pss_cons (ps_fld (pv 0) (pe_call (ok_longest_left T) (hr.mono (by decide)) (by rfl) T.g_longest_left T.k_longest_left T.b_longest_left .nil pass0 (pa_cons (pe_fld (pv 0) rfl) pa_nil)) rfl)
 (pss_cons (ps_fld (pv 0) (pe_call (ok_quarrel_of T) (hr.mono (by decide)) (by rfl) T.g_quarrel_of T.k_quarrel_of T.b_quarrel_of .nil pass0 (pa_cons (pe_fld (pv 0) rfl) (pa_cons (pe_fld (pv 0) rfl) (pa_cons (pe_fld (pv 0) rfl) pa_nil)))) rfl)
 (pss_one (ps_fld (pv 0) (pe_call (ok_end_moves T) (hr.mono (by decide)) (by rfl) T.g_end_moves T.k_end_moves T.b_end_moves .nil pass0 (pa_cons (pv 1) (pa_cons (pe_fld (pv 0) rfl) pa_nil))) rfl)))))))), fun sA ds R h => ?_⟩
  obtain ⟨sg, rs, rfl, hs, hrs, hR⟩ := h
  walk_at "start"
  have cB := T.l_Book
  have xB1 := T.x_Book_signs
  have xB2 := T.x_Book_rules
  have xB3 := T.x_Book__lefts
  have xB4 := T.x_Book__longest
  have xB5 := T.x_Book__quarrel
  have xB6 := T.x_Book__moves
  walk_at "w"
  refine ⟨sg, rfl, hs, ?_⟩
  walk_at "w"
  refine ⟨sg, rs, rfl, hs, hrs, ?_⟩
  walk_at "w"
  refine ⟨rs, rfl, by have := hrs.1; omega, ?_⟩
  walk_at "w"
  refine ⟨rs, rfl, by have := hrs.1; omega, fun r hr => by have := hrs.good r hr; omega, ?_⟩
  walk_at "w"
  refine ⟨rs, rfl, hrs.good, hrs.1, fun o ho => ?_⟩
  walk_at "w"
  refine ⟨sg, rs, rfl, hrs.1, hrs.good, hs.2.1, fun mv => ?_⟩
  walk_at "w"
  exact ⟨_, rfl, hR o mv ho⟩
def S_bcall (C : Addr) : List Dat → (Dat → Prop) → Prop := fun ds R => ∃ (sg : W) (rs : List Rl) (o : Option W) (mv : Dat) (t : W), ds = [.obj C (bookF sg rs o mv), .str t] ∧ SgOk sg ∧ RsOk sg rs ∧ t.length ≤ 200 ∧ (∀ c ∈ t, c ∈ sg) ∧ R (.str (left rs t))
theorem ok_Booku_callu (T : Tx P K mg a) : FnOk P wd K mg base CX0 3 a.f_Booku_callu a.d_Booku_callu ["self", "text"] (spF K (S_bcall a.C_Book)) :=
  okF T.F_Booku_callu sc_Booku_callu (fun ds R h => by obtain ⟨sg, rs, o, mv, t, rfl, hs, hrs, ht, htc, hR⟩ := h; rfl) fun cdv A outer s H E hr => by
  refine ⟨_, (pss_cons (ps_expr (pe_call (ok_check_text T) (hr.mono (by decide)) (by rfl) T.g_check_text T.k_check_text T.b_check_text .nil pass0 (pa_cons (pe_fld (pv 0) rfl) (pa_cons (pv 1) pa_nil))))
 (pss_one (ps_ret (pe_call (ok_left_over T) (hr.mono (by decide)) (by rfl) T.g_left_over T.k_left_over T.b_left_over .nil pass0 (pa_cons (pe_fld (pv 0) rfl) (pa_cons (pe_fld (pv 0) rfl) (pa_cons (pv 1) pa_nil))))))), fun ds R h => ?_⟩
  obtain ⟨sg, rs, o, mv, t, rfl, hs, hrs, ht, htc, hR⟩ := h
  walk_at "start"
  have cB := T.l_Book
  have xB1 := T.x_Book_signs
  have xB2 := T.x_Book_rules
  have xB3 := T.x_Book__lefts
  have xB4 := T.x_Book__longest
  have xB5 := T.x_Book__quarrel
  have xB6 := T.x_Book__moves
  walk_at "w"
  refine ⟨sg, t, rfl, by have := hs.2.1; omega, ht, htc, ?_⟩
  walk_at "w"
  refine ⟨rs, t, rfl, hrs.good, by omega, ?_⟩
  walk_at "w"
  exact hR
def S_rest_of (C : Addr) : List Dat → (Dat → Prop) → Prop := fun ds R => ∃ (sg : W) (rs : List Rl) (o : Option W) (mv : Dat) (t : W), ds = [.obj C (bookF sg rs o mv), .str t] ∧ RsOk sg rs ∧ t.length ≤ 200 ∧ R (.str (left rs t))
theorem ok_rest_of (T : Tx P K mg a) : FnOk P wd K mg base CX0 3 a.f_rest_of a.d_rest_of ["book", "text"] (spF K (S_rest_of a.C_Book)) :=
  okF T.F_rest_of sc_rest_of (fun ds R h => by obtain ⟨sg, rs, o, mv, t, rfl, hrs, ht, hR⟩ := h; rfl) fun cdv A outer s H E hr => by
  refine ⟨_, (pss_one (ps_ret (pe_call (ok_left_over T) (hr.mono (by decide)) (by rfl) T.g_left_over T.k_left_over T.b_left_over .nil pass0 (pa_cons (pe_fld (pv 0) rfl) (pa_cons (pe_fld (pv 0) rfl) (pa_cons (pv 1) pa_nil)))))), fun ds R h => ?_⟩
  obtain ⟨sg, rs, o, mv, t, rfl, hrs, ht, hR⟩ := h
  walk_at "start"
  have cB := T.l_Book
  have xB1 := T.x_Book_signs
  have xB2 := T.x_Book_rules
  have xB3 := T.x_Book__lefts
  have xB4 := T.x_Book__longest
  have xB5 := T.x_Book__quarrel
  have xB6 := T.x_Book__moves
  walk_at "w"
  refine ⟨rs, t, rfl, hrs.good, by omega, ?_⟩
  walk_at "w"
  exact hR
def S_check_settled (C : Addr) : List Dat → (Dat → Prop) → Prop := fun ds R => ∃ (sg : W) (rs : List Rl) (mv : Dat), ds = [.obj C (bookF sg rs none mv)] ∧ R .non
theorem ok_check_settled (T : Tx P K mg a) : FnOk P wd K mg base CX0 1 a.f_check_settled a.d_check_settled ["book"] (spF K (S_check_settled a.C_Book)) :=
  okF T.F_check_settled sc_check_settled (fun ds R h => by obtain ⟨sg, rs, mv, rfl, hR⟩ := h; rfl) fun cdv A outer s H E hr => by
  refine ⟨_, (pss_one (ps_if (pt_cmpR op_notN_ (pe_fld (pv 0) rfl) pe_non (nomark _))
  (pss_one (ps_never))
  pss_nil)), fun ds R h => ?_⟩
  obtain ⟨sg, rs, mv, rfl, hR⟩ := h
  walk_at "start"
  have cB := T.l_Book
  have xB1 := T.x_Book_signs
  have xB2 := T.x_Book_rules
  have xB3 := T.x_Book__lefts
  have xB4 := T.x_Book__longest
  have xB5 := T.x_Book__quarrel
  have xB6 := T.x_Book__moves
  walk_at "w"
  exact hR
def S_meaning (C : Addr) : List Dat → (Dat → Prop) → Prop := fun ds R => ∃ (sg : W) (rs : List Rl) (mv : Dat) (t : W), ds = [.obj C (bookF sg rs none mv), .str t] ∧ SgOk sg ∧ RsOk sg rs ∧ t.length ≤ 200 ∧ (∀ c ∈ t, c ∈ sg) ∧ R (.str (left rs t))
def S_alike (C : Addr) : List Dat → (Dat → Prop) → Prop := fun ds R => ∃ (sg : W) (rs : List Rl) (mv : Dat) (t u : W), ds = [.obj C (bookF sg rs none mv), .str t, .str u] ∧ SgOk sg ∧ RsOk sg rs ∧ t.length ≤ 200 ∧ (∀ c ∈ t, c ∈ sg) ∧ u.length ≤ 200 ∧ (∀ c ∈ u, c ∈ sg) ∧ R (.bl (decide (left rs t = left rs u)))

end

section
variable {P : Program} {wd : World} {K : PySem.W.Frag} {mg : Str → Option Value} {base : Heap} {a : Ad}
def Menu : List W := ["ab", "abc", "ab", "ac", "abc", "bz", "a", "bcd", "ab", "kmz", "abc", "xy"].map sW
def S_law_signs : List Dat → (Dat → Prop) → Prop := fun ds R => ds = [] ∧ ∀ s ∈ Menu, R (.str s)
theorem ok__law_signs (T : Tx P K mg a) : FnOk P wd K mg base CX0 2 a.f__law_signs a.d__law_signs ["source"] (spS K S_law_signs) :=
  okS T.F__law_signs sc__law_signs (fun ds R h => by obtain ⟨rfl, hR⟩ := h; rfl) fun cdv A outer s H E hr => by
  refine ⟨_, (pss_cons (ps_set (i := 1) sc__law_signs.nd rfl (Or.inl rfl) (pe_lst (pa_cons pe_str (pa_cons pe_str (pa_cons pe_str (pa_cons pe_str (pa_cons pe_str (pa_cons pe_str (pa_cons pe_str (pa_cons pe_str (pa_cons pe_str (pa_cons pe_str (pa_cons pe_str (pa_cons pe_str pa_nil))))))))))))))
 (pss_one (ps_ret (pe_ix (kIxL K rfl) (pv 1) (pe_call (ok__law_pick T) (hr.mono (by decide)) (by rfl) T.g__law_pick T.k__law_pick T.b__law_pick .nil pass0 (pa_cons (pv 0) (pa_cons (pe_callB (kLen K rfl) (by rfl) T.n_len (by decide +kernel) (pa_cons (pv 1) pa_nil)) pa_nil))) (fun _ _ => rfl))))), fun sA ds R h => ?_⟩
  obtain ⟨rfl, hR⟩ := h
  walk_at "start"
  walk_at "w"
  refine ⟨_, rfl, by decide, by decide, fun d hd => ?_⟩
  have hd2 : d < Menu.length := Int.ofNat_lt.mp hd
  refine ⟨_, .str Menu[d], rfl, at_map (f := Dat.str) (xs := Menu) (List.getElem?_eq_getElem hd2), ?_⟩
  walk_at "w"
  exact hR _ (List.getElem_mem _)
def S_law_text : List Dat → (Dat → Prop) → Prop := fun ds R => ∃ (sg : W) (n : Nat), ds = [.str sg, .int (n : Int)] ∧ 1 ≤ sg.length ∧ sg.length ≤ 8 ∧ n ≤ 1000 ∧ ∀ t : W, t.length ≤ n → (∀ c ∈ t, c ∈ sg) → R (.str t)
theorem ok__law_text (T : Tx P K mg a) : FnOk P wd K mg base CX0 2 a.f__law_text a.d__law_text ["source", "signs", "most"] (spS K S_law_text) :=
  okS T.F__law_text sc__law_text (fun ds R h => by obtain ⟨sg, n, rfl, h1, h2, h3, hR⟩ := h; rfl) fun cdv A outer s H E hr => by
  refine ⟨_, (pss_cons (ps_set (i := 3) sc__law_text.nd rfl (Or.inl rfl) pe_str)
 (pss_cons (ps_for PassesOwn.never rfl (pi_range1 rfl T.n_range (pa_cons (pe_call (ok__law_pick T) (hr.mono (by decide)) (by rfl) T.g__law_pick T.k__law_pick T.b__law_pick .nil pass0 (pa_cons (pv 0) (pa_cons (pe_op op_add (pv 2) pe_int) pa_nil))) pa_nil)) (pg_name (i := 4) sc__law_text.nd rfl (Or.inl rfl))
  (pss_one (ps_set (i := 3) sc__law_text.nd rfl (Or.inl rfl) (pe_op op_addS (pv 3) (pe_ix ix_str (pv 1) (pe_call (ok__law_pick T) (hr.mono (by decide)) (by rfl) T.g__law_pick T.k__law_pick T.b__law_pick .nil pass0 (pa_cons (pv 0) (pa_cons (pe_callB (kLen K rfl) (by rfl) T.n_len (by decide +kernel) (pa_cons (pv 1) pa_nil)) pa_nil))) (fun _ _ => rfl))))))
 (pss_one (ps_ret (pv 3))))), fun sA ds R h => ?_⟩
  obtain ⟨sg, n, rfl, h1, h2, h3, hR⟩ := h
  walk_at "start"
  walk_at "w"
  refine ⟨_, rfl, by omega, by omega, fun d hd => ?_⟩
  walk_at "w"
  refine ⟨fun i ρ' => ∃ (t : W) (s4 : Slot), ρ' = [.src sA, .d (.str sg), .d (.int (n : Int)), .d (.str t), s4] ∧ t.length ≤ i ∧ ∀ c ∈ t, c ∈ sg, ⟨[], _, rfl, Nat.le_refl _, by simp⟩, fun i x ρ' hx hw => ?_, fun ρ' hw => ?_⟩
  · obtain ⟨t, s4, rfl, ht, htc⟩ := hw
    obtain ⟨hi, rfl⟩ := rng0_get hx
    walk_at "w"
    refine ⟨_, rfl, by omega, by omega, fun e he => ?_⟩
    have hl : sg[e]? = some sg[e] := List.getElem?_eq_getElem (by omega)
    have hc : sg[e] ∈ sg := List.getElem_mem _
    generalize sg[e] = c at hl hc
    walk_at "w"
    refine o2_ixS (by omega) (at_nat hl) ?_
    walk_at "w"
    refine ⟨t ++ [c], _, rfl, by rw [List.length_append, List.length_singleton]; omega, fun d hd => ?_⟩
    rcases List.mem_append.mp hd with hd | hd
    · exact htc d hd
    · rw [List.mem_singleton] at hd
      subst hd
      exact hc
  · obtain ⟨t, s4, rfl, ht, htc⟩ := hw
    rw [rngI_len, Int.toNat_natCast] at ht
    walk_at "w"
    exact hR t (by omega) htc
theorem ones {sg : W} : ∀ {ws : List W}, (∀ w ∈ ws, ∃ c, c ∈ sg ∧ w = [c]) → (ws.map List.length).sum = ws.length ∧ ws.flatten.length = ws.length ∧ ∀ c ∈ ws.flatten, c ∈ sg
  | [], _ => ⟨rfl, rfl, by simp⟩
  | w :: ws, h => by
    obtain ⟨h1, h2, h3⟩ := ones fun v hv => h v (List.mem_cons_of_mem _ hv)
    obtain ⟨c, hc, rfl⟩ := h w List.mem_cons_self
    refine ⟨by rw [List.map_cons, List.sum_cons, h1, List.length_cons, List.length_cons, List.length_nil]; omega, by rw [List.flatten_cons, List.length_append, h2, List.length_cons, List.length_cons, List.length_nil]; omega, fun d hd => ?_⟩
    rw [List.flatten_cons, List.mem_append, List.mem_singleton] at hd
    rcases hd with rfl | hd
    · exact hc
    · exact h3 d hd
def S_law_rule : List Dat → (Dat → Prop) → Prop := fun ds R => ∃ (sg : W) (n : Nat), ds = [.str sg, .int (n : Int)] ∧ 1 ≤ sg.length ∧ sg.length ≤ 8 ∧ 2 ≤ n ∧ n ≤ 4 ∧ ∀ r : Rl, RuleOk sg r → R (ruleD r)
theorem ok__law_rule (T : Tx P K mg a) : FnOk P wd K mg base CX0 2 a.f__law_rule a.d__law_rule ["source", "signs", "longest"] (spS K S_law_rule) :=
  okS T.F__law_rule sc__law_rule (fun ds R h => by obtain ⟨sg, n, rfl, h1, h2, h3, h4, hR⟩ := h; rfl) fun cdv A outer s H E hr => by
  refine ⟨_, (pss_cons (ps_set (i := 3) sc__law_rule.nd rfl (Or.inl rfl) (pe_op op_add pe_int (pe_call (ok__law_pick T) (hr.mono (by decide)) (by rfl) T.g__law_pick T.k__law_pick T.b__law_pick .nil pass0 (pa_cons (pv 0) (pa_cons (pv 2) pa_nil)))))
 (pss_cons (ps_if (PW.pt (pw_and (pt_cmpR op_eq (pv 3) pe_int (nomark _)) (pw_and1 (pt_cmpR op_gt (pe_call (ok__law_pick T) (hr.mono (by decide)) (by rfl) T.g__law_pick T.k__law_pick T.b__law_pick .nil pass0 (pa_cons (pv 0) (pa_cons pe_int pa_nil))) pe_int (nomark _)))))
  (pss_one (ps_set (i := 3) sc__law_rule.nd rfl (Or.inl rfl) (pe_callB (call_min2_ rfl) (by rfl) T.n_min (by decide +kernel) (pa_cons pe_int (pa_cons (pv 2) pa_nil)))))
  pss_nil)
 (pss_cons (ps_set (i := 4) sc__law_rule.nd rfl (Or.inl rfl) (pe_m1 PySem.F.slot_str_join PySem.F.type_str_join (kJoin K rfl) pe_str (pe_lc (own := [("k", 5)]) rfl sc__law_rule.nd (pi_range1 rfl T.n_range (pa_cons (pv 3) pa_nil)) (blkOk_by (own := [("k", 5)]) (N := N__law_rule) (sc := defScope s__law_rule) (by decide +kernel)) (fun _ _ _ _ _ => (pg_name (i := 5) sc__law_rule.nd rfl (Or.inl rfl))) (fun _ _ _ _ _ => pts_nil) (fun _ _ _ _ _ => (pe_ix ix_str (pv 1) (pe_call (ok__law_pick T) (hr.mono (by decide)) (by rfl) T.g__law_pick T.k__law_pick T.b__law_pick .nil pass0 (pa_cons (pv 0) (pa_cons (pe_callB (kLen K rfl) (by rfl) T.n_len (by decide +kernel) (pa_cons (pv 1) pa_nil)) pa_nil))) (fun _ _ => rfl))))))
 (pss_cons (ps_if (PW.pt (pw_or (pt_cmpR op_eq (pv 3) pe_int (nomark _)) (pw_or1 (pt_cmpR op_eq (pe_call (ok__law_pick T) (hr.mono (by decide)) (by rfl) T.g__law_pick T.k__law_pick T.b__law_pick .nil pass0 (pa_cons (pv 0) (pa_cons pe_int pa_nil))) pe_int (nomark _)))))
  (pss_one (ps_ret (pe_tup (pa_cons (pv 4) (pa_cons pe_str pa_nil)))))
  pss_nil)
 (pss_one (ps_ret (pe_tup (pa_cons (pv 4) (pa_cons (pe_ix ix_str (pv 1) (pe_call (ok__law_pick T) (hr.mono (by decide)) (by rfl) T.g__law_pick T.k__law_pick T.b__law_pick .nil pass0 (pa_cons (pv 0) (pa_cons (pe_callB (kLen K rfl) (by rfl) T.n_len (by decide +kernel) (pa_cons (pv 1) pa_nil)) pa_nil))) (fun _ _ => rfl)) pa_nil))))))))), fun sA ds R h => ?_⟩
  obtain ⟨sg, n, rfl, h1, h2, h3, h4, hR⟩ := h
  walk_at "start"
  walk_at "w"
  refine ⟨_, rfl, by omega, by omega, fun d hd => ?_⟩
  refine o2_I0 ?_
  refine run_seq ?_
  dsimp only [List.set]
  refine run_cut (fun ρ' => ∃ k : Nat, ρ' = [.src sA, .d (.str sg), .d (.int (n : Int)), .d (.int (k : Int)), .no, .no] ∧ 1 ≤ k ∧ k ≤ 4) ?_ ?_
  · walk_at "w"
    refine BV.c_dec (fun h0 => ?_) fun h0 => ?_
    · walk_at "w"
      refine ⟨_, rfl, by omega, by omega, fun e he => ?_⟩
      walk_at "w"
      refine ⟨fun _ => ?_, fun _ => ?_⟩
      · walk_at "w"
        exact ⟨min 2 n, by dsimp only [List.set]; rw [show ((min 2 n : Nat) : Int) = min 2 (n : Int) by omega], by omega, by omega⟩
      · walk_at "w"
        exact ⟨1 + d, by rw [show ((1 + d : Nat) : Int) = 1 + (d : Int) by omega], by omega, by omega⟩
    · walk_at "w"
      exact ⟨1 + d, by rw [show ((1 + d : Nat) : Int) = 1 + (d : Int) by omega], by omega, by omega⟩
  · rintro ρ' ⟨k, rfl, hk1, hk4⟩
    walk_at "w"
    refine g_lc (np1 (by rfl) fun _ => rfl) ?_
    walk_at "w"
    refine ⟨by rw [rngI_len]; omega, fun i acc => ∃ ws : List W, acc = ws.map Dat.str ∧ ws.length = i ∧ ∀ w ∈ ws, ∃ c, c ∈ sg ∧ w = [c], ⟨[], rfl, rfl, by simp⟩, fun i x acc hx hw _ => ?_, fun acc _ hw => ?_⟩
    · obtain ⟨ws, rfl, hl, hw⟩ := hw
      obtain ⟨hi, rfl⟩ := rng0_get hx
      dsimp only [wipeS, List.set]
      walk_at "w"
      refine ⟨_, rfl, by omega, by omega, fun e he => ?_⟩
      have hl2 : sg[e]? = some sg[e] := List.getElem?_eq_getElem (by omega)
      have hc : sg[e] ∈ sg := List.getElem_mem _
      generalize sg[e] = c at hl2 hc
      refine o2_ixS (by omega) (at_nat hl2) ?_
      refine ⟨ws ++ [[c]], by rw [List.map_append]; rfl, by rw [List.length_append, List.length_singleton, hl], fun w hww => ?_⟩
      rcases List.mem_append.mp hww with hww | hww
      · exact hw w hww
      · rw [List.mem_singleton] at hww
        exact ⟨c, hc, hww⟩
    · obtain ⟨ws, rfl, hl, hw⟩ := hw
      rw [rngI_len, Int.toNat_natCast] at hl
      obtain ⟨f1, f2, f3⟩ := ones hw
      refine ⟨ws, rfl, by rw [f1, hl]; show k + k * 0 ≤ _; omega, ?_⟩
      have e0 : (Str.ofString "").cps.toList = [] := rfl
      rw [e0, joinW_nil]
      rw [hl] at f2
      generalize ws.flatten = lf at f2 f3
      walk_at "w"
      refine BV.c_dec (fun h0 => ?_) fun h0 => ?_
      · walk_at "w"
        exact hR (lf, []) ⟨⟨by show 0 < lf.length; omega, by show lf.length ≤ 4; omega, Nat.zero_le _⟩, f3, by simp⟩
      · walk_at "w"
        refine ⟨_, rfl, by omega, by omega, fun e he => ?_⟩
        walk_at "w"
        refine BV.c_dec (fun h1 => ?_) fun h1 => ?_
        · walk_at "w"
          exact hR (lf, []) ⟨⟨by show 0 < lf.length; omega, by show lf.length ≤ 4; omega, Nat.zero_le _⟩, f3, by simp⟩
        · walk_at "w"
          refine ⟨_, rfl, by omega, by omega, fun e he => ?_⟩
          have hl2 : sg[e]? = some sg[e] := List.getElem?_eq_getElem (by omega)
          have hc : sg[e] ∈ sg := List.getElem_mem _
          generalize sg[e] = c at hl2 hc
          refine o2_ixS (by omega) (at_nat hl2) ?_
          walk_at "w"
          exact hR (lf, [c]) ⟨⟨by show 1 < lf.length; omega, by show lf.length ≤ 4; omega, Nat.le_refl _⟩, f3, fun d hd => by rw [List.mem_singleton] at hd; subst hd; exact hc⟩

end

section
variable {P : Program} {wd : World} {K : PySem.W.Frag} {mg : Str → Option Value} {base : Heap} {a : Ad}
/-- the rules of a settled book -/
def Set7 (sg : W) (rs : List Rl) : Prop := RsOk sg rs ∧ Conf rs
def S_law_drawn : List Dat → (Dat → Prop) → Prop := fun ds R => ∃ (sg : W), ds = [.str sg] ∧ SgOk sg ∧ ∀ rs : List Rl, RsOk sg rs → R (rulesD rs)

end

section
variable {P : Program} {wd : World} {K : PySem.W.Frag} {mg : Str → Option Value} {base : Heap} {a : Ad}
theorem res_nil : Res [] := fun l r hl => by simp at hl
def S_law_grown : List Dat → (Dat → Prop) → Prop := fun ds R => ∃ (sg : W) (n k : Nat), ds = [.str sg, .int (n : Int), .int (k : Int)] ∧ SgOk sg ∧ n ≤ 10 ∧ 2 ≤ k ∧ k ≤ 4 ∧ ∀ rs : List Rl, Set7 sg rs → rs.length ≤ 20 → R (rulesD rs)
theorem ok__law_grown (T : Tx P K mg a) : FnOk P wd K mg base CX0 3 a.f__law_grown a.d__law_grown ["source", "signs", "most", "longest"] (spS K S_law_grown) :=
  okS T.F__law_grown sc__law_grown (fun ds R h => by obtain ⟨sg, n, k, rfl, h1, h2, h3, h4, hR⟩ := h; rfl) fun cdv A outer s H E hr => by
  refine ⟨_, (pss_cons (ps_set (i := 4) sc__law_grown.nd rfl (Or.inl rfl) (pe_lst pa_nil))
 (pss_cons (ps_for PassesOwn.never rfl (pi_range1 rfl T.n_range (pa_cons (pe_call (ok__law_pick T) (hr.mono (by decide)) (by rfl) T.g__law_pick T.k__law_pick T.b__law_pick .nil pass0 (pa_cons (pv 0) (pa_cons (pe_op op_add (pv 2) pe_int) pa_nil))) pa_nil)) (pg_name (i := 5) sc__law_grown.nd rfl (Or.inl rfl))
  (pss_one (ps_for PassesOwn.never rfl (pi_range1 rfl T.n_range (pa_cons pe_int pa_nil)) (pg_name (i := 6) sc__law_grown.nd rfl (Or.inl rfl))
  (pss_cons (ps_set (i := 7) sc__law_grown.nd rfl (Or.inl rfl) (pe_call (ok__law_rule T) (hr.mono (by decide)) (by rfl) T.g__law_rule T.k__law_rule T.b__law_rule .nil pass0 (pa_cons (pv 0) (pa_cons (pv 1) (pa_cons (pv 3) pa_nil)))))
 (pss_one (ps_if (PW.pt (pw_and (pt_cmpR (kNotInD K rfl (units65 hr)) (pv 7) (pv 4) (by rfl)) (pw_and1 (pt_cmpR op_isN_ (pe_call (ok__law_quarrel T) (hr.mono (by decide)) (by rfl) T.g__law_quarrel T.k__law_quarrel T.b__law_quarrel .nil pass0 (pa_cons (pe_op op_cat (pv 4) (pe_lst (pa_cons (pv 7) pa_nil))) pa_nil)) pe_non (nomark _)))))
  (pss_cons (ps_set (i := 4) sc__law_grown.nd rfl (Or.inl rfl) (pe_op op_cat (pv 4) (pe_lst (pa_cons (pv 7) pa_nil))))
 (pss_one ps_break))
  pss_nil))))))
 (pss_one (ps_ret (pe_callTy (kTupOf K rfl) (by rfl) T.n_tuple (by decide +kernel) (pa_cons (pv 4) pa_nil)))))), fun sA ds R h => ?_⟩
  obtain ⟨sg, n, k, rfl, h1, h2, h3, h4, hR⟩ := h
  walk_at "start"
  have h12 := h1.2.1
  have h11 := h1.1
  refine run_seq (run_asg (g_lst (ga_nil ?_)))
  dsimp only [List.set]
  walk_at "w"
  refine ⟨_, rfl, by omega, by omega, fun d hd => ?_⟩
  walk_at "w"
  refine ⟨fun i ρ' => ∃ (rs : List Rl) (s5 s6 s7 : Slot), ρ' = [.src sA, .d (.str sg), .d (.int (n : Int)), .d (.int (k : Int)), .d (.lst (rs.map ruleD)), s5, s6, s7] ∧ rs.length ≤ i ∧ (rs.Nodup ∧ ∀ r ∈ rs, RuleOk sg r) ∧ Res rs, ⟨[], _, _, _, rfl, Nat.le_refl _, ⟨by simp, by simp⟩, res_nil⟩, fun i x ρ' hx hw => ?_, fun ρ' hw => ?_⟩
  · obtain ⟨rs, s5, s6, s7, rfl, hl, ⟨hn, hr⟩, hres⟩ := hw
    obtain ⟨hi, rfl⟩ := rng0_get hx
    walk_at "w"
    refine ⟨fun j ρ' => ∃ (s5 s6 s7 : Slot), ρ' = [.src sA, .d (.str sg), .d (.int (n : Int)), .d (.int (k : Int)), .d (.lst (rs.map ruleD)), s5, s6, s7], ⟨_, _, _, rfl⟩, fun j y ρ' hy hw => ?_, fun ρ' hw => ?_⟩
    · obtain ⟨s5, s6, s7, rfl⟩ := hw
      walk_at "w"
      refine ⟨sg, k, rfl, h11, h12, h3, h4, fun r hrk => ?_⟩
      walk_at "w"
      refine o2_notInD (shp_rule (hrk.lw h1)) (shp_rules fun q hq => (hr q hq).lw h1) ?_
      rw [any_rules]
      walk_at "w"
      refine BV.c_nec (fun hni => ?_) fun hni => ?_
      · have hrn : (∀ q ∈ rs ++ [r], RuleOk sg q) := fun q hq => by
          rcases List.mem_append.mp hq with hq | hq
          · exact hr q hq
          · rw [List.mem_singleton] at hq
            subst hq
            exact hrk
        have hnn : (rs ++ [r]).Nodup := by
          rw [List.nodup_append]
          exact ⟨hn, by simp, fun a ha b hb e => by rw [List.mem_singleton] at hb; subst hb; subst e; exact hni ha⟩
        have hll : (rs ++ [r]).length ≤ i + 1 := by rw [List.length_append, List.length_singleton]; omega
        walk_at "w"
        · simp only [List.length_map, List.length_cons, List.length_nil]; omega
        walk_at "w"
        refine ⟨rs ++ [r], _, rfl, .inl (by rw [List.map_append]; rfl), fun q hq => (hrn q hq).1, by omega, fun o ho => ?_⟩
        cases o with
        | none =>
          walk_at "w"
          · exact ⟨rs ++ [r], _, _, _, by rw [List.map_append]; rfl, hll, ⟨hnn, hrn⟩, ho.res rfl⟩
          simp only [List.length_map, List.length_cons, List.length_nil]
          omega
        | some w =>
          walk_at "w"
          exact ⟨_, _, _, rfl⟩
      · walk_at "w"
        exact ⟨_, _, _, rfl⟩
    · obtain ⟨s5, s6, s7, rfl⟩ := hw
      exact ⟨rs, _, _, _, rfl, by omega, ⟨hn, hr⟩, hres⟩
  · obtain ⟨rs, s5, s6, s7, rfl, hl, ⟨hn, hr⟩, hres⟩ := hw
    rw [rngI_len] at hl
    walk_at "w"
    have ok : RsOk sg rs := ⟨by omega, hn, hr⟩
    exact hR rs ⟨ok, conf_of ok.good hres⟩ (by omega)

end

section
variable {P : Program} {wd : World} {K : PySem.W.Frag} {mg : Str → Option Value} {base : Heap} {a : Ad}
def S_law_table_rules : List Dat → (Dat → Prop) → Prop := fun ds R => ∃ (sg : W), ds = [.str sg] ∧ 1 ≤ sg.length ∧ sg.length ≤ 8 ∧ ∀ k, k < 8 → R (rulesD (tabRules sg k))
@[reducible] def tabRow (sg : W) (k i : Nat) (j : Nat) : Rl := ([sg.getD i 0, sg.getD j 0], match tabAt k sg.length i j with | none => [] | some z => [sg.getD z 0])
theorem tabRules_eq (sg : W) (k : Nat) : tabRules sg k = (List.range sg.length).flatMap fun i => (List.range sg.length).map (tabRow sg k i) := rfl
theorem flatMap_snoc {α : Type} (f : Nat → List α) (n : Nat) : (List.range (n + 1)).flatMap f = (List.range n).flatMap f ++ f n := by
  rw [List.range_succ, List.flatMap_append]
  simp
theorem map_snoc {α : Type} (f : Nat → α) (n : Nat) : (List.range (n + 1)).map f = (List.range n).map f ++ [f n] := by
  rw [List.range_succ, List.map_append]
  rfl
theorem ok__law_table_rules (T : Tx P K mg a) : FnOk P wd K mg base CX0 2 a.f__law_table_rules a.d__law_table_rules ["source", "signs"] (spS K S_law_table_rules) :=
  okS T.F__law_table_rules sc__law_table_rules (fun ds R h => by obtain ⟨sg, rfl, h1, h2, hR⟩ := h; rfl) fun cdv A outer s H E hr => by
  refine ⟨_, (pss_cons (ps_set (i := 2) sc__law_table_rules.nd rfl (Or.inl rfl) (pe_call (ok__law_pick T) (hr.mono (by decide)) (by rfl) T.g__law_pick T.k__law_pick T.b__law_pick .nil pass0 (pa_cons (pv 0) (pa_cons pe_int pa_nil))))
 (pss_cons (ps_set (i := 3) sc__law_table_rules.nd rfl (Or.inl rfl) (pe_callB (kLen K rfl) (by rfl) T.n_len (by decide +kernel) (pa_cons (pv 1) pa_nil)))
 (pss_cons (ps_set (i := 4) sc__law_table_rules.nd rfl (Or.inl rfl) (pe_lst pa_nil))
 (pss_cons (ps_for PassesOwn.never rfl (pi_range1 rfl T.n_range (pa_cons (pv 3) pa_nil)) (pg_name (i := 5) sc__law_table_rules.nd rfl (Or.inl rfl))
  (pss_one (ps_for PassesOwn.never rfl (pi_range1 rfl T.n_range (pa_cons (pv 3) pa_nil)) (pg_name (i := 6) sc__law_table_rules.nd rfl (Or.inl rfl))
  (pss_cons (ps_set (i := 7) sc__law_table_rules.nd rfl (Or.inl rfl) (pe_op op_sub (pe_op op_modN (pe_callTy call_int_ (by rfl) T.n_int (by decide +kernel) (pa_cons (pe_op op_add (pe_op op_add (pv 5) (pv 6)) pe_int) pa_nil)) (pe_op op_add (pv 3) pe_int)) pe_int))
 (pss_cons (ps_set (i := 8) sc__law_table_rules.nd rfl (Or.inl rfl) (pe_ix (kIxL K rfl) (pe_lst (pa_cons (pv 5) (pa_cons (pv 6) (pa_cons (pe_callB (call_max2_ rfl) (by rfl) T.n_max (by decide +kernel) (pa_cons (pv 5) (pa_cons (pv 6) pa_nil))) (pa_cons pe_int (pa_cons (pe_callB (call_min2_ rfl) (by rfl) T.n_min (by decide +kernel) (pa_cons (pv 5) (pa_cons (pv 6) pa_nil))) (pa_cons (pe_op op_sub (pv 3) pe_int) (pa_cons (pv 7) (pa_cons (pv 7) pa_nil))))))))) (pv 2) (fun _ _ => rfl)))
 (pss_one (ps_expr (pe_bm PySem.F.plainAttrs_list PySem.F.slot_list_append PySem.F.type_list_append mt_append (pv 4) (pa_cons (pe_tup (pa_cons (pe_op op_addS (pe_ix ix_str (pv 1) (pv 5) (fun _ _ => rfl)) (pe_ix ix_str (pv 1) (pv 6) (fun _ _ => rfl))) (pa_cons (pe_ifExp (pt_cmpR op_lt (pv 8) pe_int (nomark _)) pe_str (pe_ix ix_str (pv 1) (pv 8) (fun _ _ => rfl))) pa_nil))) pa_nil)))))))))
 (pss_one (ps_ret (pe_callTy (kTupOf K rfl) (by rfl) T.n_tuple (by decide +kernel) (pa_cons (pv 4) pa_nil)))))))), fun sA ds R h => ?_⟩
  obtain ⟨sg, rfl, h1, h2, hR⟩ := h
  walk_at "start"
  walk_at "w"
  refine ⟨_, rfl, by decide, by decide, fun k hk => ?_⟩
  have hk8 : k < 8 := by omega
  walk_at "w"
  generalize hn : sg.length = n at h1 h2
  have hfl : ∀ i, ((List.range i).flatMap fun i => (List.range n).map (tabRow sg k i)).length = i * n := fun i => by
    rw [flat_len _ n _ (fun x _ => by rw [List.length_map, List.length_range]), List.length_range]
  refine ⟨fun i ρ' => ∃ s5 s6 s7 s8, ρ' = [.src sA, .d (.str sg), .d (.int (k : Int)), .d (.int (n : Int)), .own (((List.range i).flatMap fun i => (List.range n).map (tabRow sg k i)).map ruleD), s5, s6, s7, s8], ⟨_, _, _, _, rfl⟩, fun i x ρ' hx hw => ?_, fun ρ' hw => ?_⟩
  · obtain ⟨s5, s6, s7, s8, rfl⟩ := hw
    obtain ⟨hi, rfl⟩ := rng0_get hx
    rw [Int.toNat_natCast] at hi
    walk_at "w"
    refine ⟨fun j ρ' => ∃ s6 s7 s8, ρ' = [.src sA, .d (.str sg), .d (.int (k : Int)), .d (.int (n : Int)), .own (((List.range i).flatMap (fun i => (List.range n).map (tabRow sg k i)) ++ (List.range j).map (tabRow sg k i)).map ruleD), .d (.int (i : Int)), s6, s7, s8], ⟨_, _, _, by rw [List.range_zero, List.map_nil, List.append_nil]⟩, fun j x ρ' hx hw => ?_, fun ρ' hw => ?_⟩
    · obtain ⟨s6, s7, s8, rfl⟩ := hw
      obtain ⟨hj, rfl⟩ := rng0_get hx
      rw [Int.toNat_natCast] at hj
      have hin : i * n ≤ 64 := by
        have := Nat.mul_le_mul (show i ≤ 8 by omega) h2
        omega
      have hb := hfl i
      generalize hB : (List.range i).flatMap (fun i => (List.range n).map (tabRow sg k i)) = B at hb
      have ht : ((i : Int) + (j : Int) + 2).fmod ((n : Int) + 1) = ((i + j + 2 : Nat) : Int) % ((n + 1 : Nat) : Int) := by
        rw [Int.fmod_eq_emod_of_nonneg _ (by omega)]
        rfl
      have hgi : sg[i]? = some (sg.getD i 0) := by rw [List.getD_eq_getElem?_getD, List.getElem?_eq_getElem (by omega)]; rfl
      have hgj : sg[j]? = some (sg.getD j 0) := by rw [List.getD_eq_getElem?_getD, List.getElem?_eq_getElem (by omega)]; rfl
      have htb : tabAt k n i j = if [(i : Int), j, max (i : Int) j, 0, min (i : Int) j, (n : Int) - 1, ((i + j + 2 : Nat) : Int) % ((n + 1 : Nat) : Int) - 1, ((i + j + 2 : Nat) : Int) % ((n + 1 : Nat) : Int) - 1].getD k 0 < 0 then none else some ([(i : Int), j, max (i : Int) j, 0, min (i : Int) j, (n : Int) - 1, ((i + j + 2 : Nat) : Int) % ((n + 1 : Nat) : Int) - 1, ((i + j + 2 : Nat) : Int) % ((n + 1 : Nat) : Int) - 1].getD k 0).toNat := rfl
      have hT1 := Int.emod_nonneg ((i + j + 2 : Nat) : Int) (show ((n + 1 : Nat) : Int) ≠ 0 by omega)
      have hT2 := Int.emod_lt_of_pos ((i + j + 2 : Nat) : Int) (show 0 < ((n + 1 : Nat) : Int) by omega)
      walk_at "w"
      rw [ht]
      generalize ((i + j + 2 : Nat) : Int) % ((n + 1 : Nat) : Int) = T at htb hT1 hT2
      have hL : k < [(i : Int), j, max (i : Int) j, 0, min (i : Int) j, (n : Int) - 1, T - 1, T - 1].length := hk8
      have hz : -1 ≤ [(i : Int), j, max (i : Int) j, 0, min (i : Int) j, (n : Int) - 1, T - 1, T - 1][k] ∧ [(i : Int), j, max (i : Int) j, 0, min (i : Int) j, (n : Int) - 1, T - 1, T - 1][k] < n := by
        have hm := List.getElem_mem hL
        generalize [(i : Int), j, max (i : Int) j, 0, min (i : Int) j, (n : Int) - 1, T - 1, T - 1][k] = z at hm
        simp only [List.mem_cons, List.not_mem_nil, or_false] at hm
        omega
      have hgd : [(i : Int), j, max (i : Int) j, 0, min (i : Int) j, (n : Int) - 1, T - 1, T - 1].getD k 0 = [(i : Int), j, max (i : Int) j, 0, min (i : Int) j, (n : Int) - 1, T - 1, T - 1][k] := by
        rw [List.getD_eq_getElem?_getD, List.getElem?_eq_getElem hL]
        rfl
      rw [hgd] at htb
      refine o2_ixL (at_map (f := Dat.int) (xs := [(i : Int), j, max (i : Int) j, 0, min (i : Int) j, (n : Int) - 1, T - 1, T - 1]) (List.getElem?_eq_getElem hL)) ?_
      generalize [(i : Int), j, max (i : Int) j, 0, min (i : Int) j, (n : Int) - 1, T - 1, T - 1][k] = z at htb hz
      have hrow : ruleD (tabRow sg k i j) = .tup [.str [sg.getD i 0, sg.getD j 0], .str (if z < 0 then [] else [sg.getD z.toNat 0])] := by
        show Dat.tup [.str [sg.getD i 0, sg.getD j 0], .str (match tabAt k sg.length i j with | none => [] | some z => [sg.getD z 0])] = _
        rw [hn, htb]
        by_cases h : z < 0
        · rw [if_pos h, if_pos h]
        · rw [if_neg h, if_neg h]
      have hln : (List.map ruleD (B ++ List.map (tabRow sg k i) (List.range j))).length < 1000000 := by
        rw [List.length_map, List.length_append, List.length_map, List.length_range]
        omega
      have fin : List.map ruleD (B ++ List.map (tabRow sg k i) (List.range j)) ++ [.tup [.str [sg.getD i 0, sg.getD j 0], .str (if z < 0 then [] else [sg.getD z.toNat 0])]] = List.map ruleD (B ++ List.map (tabRow sg k i) (List.range (j + 1))) := by
        rw [map_snoc, ← List.append_assoc, List.map_append (l₂ := [tabRow sg k i j]), ← hrow]
        rfl
      walk_at "w"
      refine o2_ixS (by omega) (at_nat hgi) ?_
      walk_at "w"
      refine o2_ixS (by omega) (at_nat hgj) ?_
      walk_at "w"
      refine BV.c_dec (fun h0 => ?_) fun h0 => ?_
      · rw [if_pos h0] at fin
        walk_at "w"
        exact ⟨_, _, _, by dsimp only [List.set]; rw [← fin]; rfl⟩
      · rw [if_neg h0] at fin
        have hzn : z = ((z.toNat : Nat) : Int) := by omega
        have hgz : sg[z.toNat]? = some (sg.getD z.toNat 0) := by rw [List.getD_eq_getElem?_getD, List.getElem?_eq_getElem (by omega)]; rfl
        have hgz2 := at_nat hgz
        rw [← hzn] at hgz2
        walk_at "w"
        refine o2_ixS (by omega) hgz2 ?_
        walk_at "w"
        exact ⟨_, _, _, by dsimp only [List.set]; rw [← fin]; rfl⟩
    · obtain ⟨s6, s7, s8, rfl⟩ := hw
      rw [rngI_len, Int.toNat_natCast, ← flatMap_snoc (fun i => (List.range n).map (tabRow sg k i))]
      exact ⟨_, _, _, _, rfl⟩
  · obtain ⟨s5, s6, s7, s8, rfl⟩ := hw
    rw [rngI_len, Int.toNat_natCast]
    walk_at "w"
    have := hR k hk8
    rw [tabRules_eq, hn] at this
    exact this
theorem known_good {a b : Nat} {rs : List Rl} (h : rs ∈ knownMenu a b) : Good rs ∧ rs.length ≤ 4 := by
  unfold knownMenu at h
  simp only [List.mem_cons, List.not_mem_nil, or_false] at h
  rcases h with rfl | rfl | rfl | rfl | rfl | rfl | rfl | rfl | rfl | rfl | rfl | rfl <;> exact ⟨by unfold Good; simp, by simp⟩
def S_law_known : List Dat → (Dat → Prop) → Prop := fun ds R => ∃ (a b : Nat), ds = [.str [a], .str [b]] ∧ ∀ rs ∈ knownMenu a b, (Res rs ∧ a ≠ b ∨ rs ∈ (knownMenu a b).take 4) → R (rulesD rs)
theorem ok__law_known (T : Tx P K mg a) : FnOk P wd K mg base CX0 3 a.f__law_known a.d__law_known ["source", "a", "b"] (spS K S_law_known) :=
  okS T.F__law_known sc__law_known (fun ds R h => by obtain ⟨a1, b1, rfl, hR⟩ := h; rfl) fun cdv A outer s H E hr => by
  refine ⟨_, (pss_cons (ps_set (i := 3) sc__law_known.nd rfl (Or.inl rfl) (pe_lst (pa_cons (pe_tup (pa_cons (pe_tup (pa_cons (pe_op op_addS (pe_op op_addS (pv 1) (pv 1)) (pv 1)) (pa_cons (pv 1) pa_nil))) pa_nil)) (pa_cons (pe_tup (pa_cons (pe_tup (pa_cons (pe_op op_addS (pv 1) (pv 1)) (pa_cons pe_str pa_nil))) pa_nil)) (pa_cons (pe_tup (pa_cons (pe_tup (pa_cons (pe_op op_addS (pe_op op_addS (pv 1) (pv 1)) (pv 1)) (pa_cons pe_str pa_nil))) pa_nil)) (pa_cons (pe_tup (pa_cons (pe_tup (pa_cons (pe_op op_addS (pv 1) (pv 1)) (pa_cons (pv 1) pa_nil))) pa_nil)) (pa_cons (pe_tup (pa_cons (pe_tup (pa_cons (pe_op op_addS (pe_op op_addS (pv 1) (pv 2)) (pv 1)) (pa_cons (pv 1) pa_nil))) pa_nil)) (pa_cons (pe_tup (pa_cons (pe_tup (pa_cons (pe_op op_addS (pv 2) (pv 1)) (pa_cons (pv 1) pa_nil))) pa_nil)) (pa_cons (pe_tup (pa_cons (pe_tup (pa_cons (pe_op op_addS (pv 1) (pv 2)) (pa_cons (pv 1) pa_nil))) (pa_cons (pe_tup (pa_cons (pe_op op_addS (pv 2) (pv 2)) (pa_cons (pv 2) pa_nil))) pa_nil))) (pa_cons (pe_tup (pa_cons (pe_tup (pa_cons (pe_op op_addS (pe_op op_addS (pv 1) (pv 2)) (pv 2)) (pa_cons (pv 1) pa_nil))) pa_nil)) (pa_cons (pe_tup (pa_cons (pe_tup (pa_cons (pe_op op_addS (pv 1) (pv 2)) (pa_cons pe_str pa_nil))) (pa_cons (pe_tup (pa_cons (pe_op op_addS (pv 2) (pv 1)) (pa_cons pe_str pa_nil))) (pa_cons (pe_tup (pa_cons (pe_op op_addS (pv 1) (pv 1)) (pa_cons (pv 2) pa_nil))) (pa_cons (pe_tup (pa_cons (pe_op op_addS (pv 2) (pv 2)) (pa_cons (pv 1) pa_nil))) pa_nil))))) (pa_cons (pe_tup (pa_cons (pe_tup (pa_cons (pe_op op_addS (pv 1) (pv 2)) (pa_cons (pv 1) pa_nil))) (pa_cons (pe_tup (pa_cons (pe_op op_addS (pv 1) (pv 1)) (pa_cons (pv 1) pa_nil))) pa_nil))) (pa_cons (pe_tup (pa_cons (pe_tup (pa_cons (pe_op op_addS (pe_op op_addS (pe_op op_addS (pv 1) (pv 2)) (pv 1)) (pv 2)) (pa_cons pe_str pa_nil))) pa_nil)) (pa_cons (pe_tup (pa_cons (pe_tup (pa_cons (pe_op op_addS (pv 1) (pv 2)) (pa_cons (pv 2) pa_nil))) (pa_cons (pe_tup (pa_cons (pe_op op_addS (pv 1) (pv 1)) (pa_cons (pv 1) pa_nil))) pa_nil))) pa_nil))))))))))))))
 (pss_cons (ps_set (i := 4) sc__law_known.nd rfl (Or.inl rfl) (pe_ix (kIxL K rfl) (pv 3) (pe_call (ok__law_pick T) (hr.mono (by decide)) (by rfl) T.g__law_pick T.k__law_pick T.b__law_pick .nil pass0 (pa_cons (pv 0) (pa_cons (pe_callB (kLen K rfl) (by rfl) T.n_len (by decide +kernel) (pa_cons (pv 3) pa_nil)) pa_nil))) (fun _ _ => rfl)))
 (pss_cons (ps_if (PW.pt (pw_or (pt_cmpR op_eq (pv 1) (pv 2) (nomark _)) (pw_or1 (pt_cmpR op_notN_ (pe_call (ok__law_quarrel T) (hr.mono (by decide)) (by rfl) T.g__law_quarrel T.k__law_quarrel T.b__law_quarrel .nil pass0 (pa_cons (pv 4) pa_nil)) pe_non (nomark _)))))
  (pss_one (ps_set (i := 4) sc__law_known.nd rfl (Or.inl rfl) (pe_ix (kIxL K rfl) (pv 3) (pe_call (ok__law_pick T) (hr.mono (by decide)) (by rfl) T.g__law_pick T.k__law_pick T.b__law_pick .nil pass0 (pa_cons (pv 0) (pa_cons pe_int pa_nil))) (fun _ _ => rfl))))
  pss_nil)
 (pss_one (ps_ret (pv 4)))))), fun sA ds R h => ?_⟩
  obtain ⟨a1, b1, rfl, hR⟩ := h
  walk_at "start"
  walk_at "w"
  refine ⟨_, rfl, (show (0 : Int) < 12 by decide), (show (12 : Int) ≤ 100000 by decide), fun d hd => ?_⟩
  have hd2 : d < (knownMenu a1 b1).length := Int.ofNat_lt.mp hd
  refine ⟨_, rulesD (knownMenu a1 b1)[d], rfl, at_map (f := rulesD) (xs := knownMenu a1 b1) (List.getElem?_eq_getElem hd2), ?_⟩
  have hm : (knownMenu a1 b1)[d] ∈ knownMenu a1 b1 := List.getElem_mem _
  have hg := known_good hm
  generalize (knownMenu a1 b1)[d] = rs at hm hg
  have second : ∀ e : Nat, (e : Int) < 4 → ∃ h : e < (knownMenu a1 b1).length, R (rulesD (knownMenu a1 b1)[e]) := fun e he => by
    have h4 : e < (knownMenu a1 b1).length := by show e < 12; omega
    refine ⟨h4, hR _ (List.getElem_mem _) (.inr ?_)⟩
    have : (knownMenu a1 b1)[e] = ((knownMenu a1 b1).take 4)[e]'(by show e < 4; omega) := by rw [List.getElem_take]
    rw [this]
    exact List.getElem_mem _
  walk_at "w"
  refine ⟨fun he => ?_, fun he => ?_⟩
  · walk_at "w"
    refine ⟨_, rfl, by decide, by decide, fun e he => ?_⟩
    obtain ⟨h4, hR4⟩ := second e he
    refine ⟨_, rulesD (knownMenu a1 b1)[e], rfl, at_map (f := rulesD) (xs := knownMenu a1 b1) (List.getElem?_eq_getElem h4), ?_⟩
    walk_at "w"
    exact hR4
  · have hne : a1 ≠ b1 := fun e => by rw [e] at he; simp at he
    walk_at "w"
    refine ⟨rs, _, rfl, .inr rfl, hg.1, by omega, fun o ho => ?_⟩
    cases o with
    | none =>
      walk_at "w"
      exact hR rs hm (.inl ⟨ho.res rfl, hne⟩)
    | some w =>
      walk_at "w"
      refine ⟨_, rfl, by decide, by decide, fun e he => ?_⟩
      obtain ⟨h4, hR4⟩ := second e he
      refine ⟨_, rulesD (knownMenu a1 b1)[e], rfl, at_map (f := rulesD) (xs := knownMenu a1 b1) (List.getElem?_eq_getElem h4), ?_⟩
      walk_at "w"
      exact hR4

end

section
variable {P : Program} {wd : World} {K : PySem.W.Frag} {mg : Str → Option Value} {base : Heap} {a : Ad}
instance (s : W) : Decidable (SgOk s) := by unfold SgOk; infer_instance
instance (sg : W) (r : Rl) : Decidable (RuleOk sg r) := by unfold RuleOk; infer_instance
instance (sg : W) (rs : List Rl) : Decidable (RsOk sg rs) := by unfold RsOk; infer_instance
theorem menu_signs : ∀ s ∈ Menu, s ∈ Signs := by decide +kernel
theorem signs_ok : ∀ sg ∈ Signs, SgOk sg ∧ sg.length ≤ 3 := by decide +kernel
theorem tab_ok0 : ∀ sg ∈ Signs, ∀ k ∈ List.range 8, RsOk sg (tabRules sg k) := by decide +kernel
theorem tab_ok {sg : W} (h : sg ∈ Signs) {k : Nat} (hk : k < 8) : Set7 sg (tabRules sg k) := by
  have h1 := tab_ok0 sg h k (List.mem_range.mpr hk)
  have h2 := List.all_eq_true.mp (List.all_eq_true.mp tables_res sg h) k (List.mem_range.mpr hk)
  exact ⟨h1, conf_of h1.good (res_of h2)⟩
theorem way1_ok0 : ∀ sg ∈ Signs, sg.length = 1 ∨ RsOk sg [(sg.take 2, [])] ∧ RsOk sg [(sg.take 2, []), ([sg.getD 1 0, sg.getD 0 0], [])] := by decide +kernel
theorem way1_ok {sg : W} (h : sg ∈ Signs) (h1 : 1 < sg.length) : Set7 sg [(sg.take 2, [])] ∧ Set7 sg [(sg.take 2, []), ([sg.getD 1 0, sg.getD 0 0], [])] := by
  have h2 := way1_ok0 sg h
  have h3 := List.all_eq_true.mp way1_res sg h
  rcases h2 with h2 | h2
  · omega
  · simp only [Bool.or_eq_true, beq_iff_eq, Bool.and_eq_true] at h3
    rcases h3 with h3 | h3
    · omega
    · exact ⟨⟨h2.1, conf_of h2.1.good (res_of h3.1)⟩, ⟨h2.2, conf_of h2.2.good (res_of h3.2)⟩⟩
theorem known_ok0 : ∀ sg ∈ Signs, (∀ rs ∈ (knownMenu (sg.getD 0 0) (sg.getD (sg.length - 1) 0)).take 4, RsOk sg rs) ∧ (sg.getD 0 0 = sg.getD (sg.length - 1) 0 ∨ ∀ rs ∈ knownMenu (sg.getD 0 0) (sg.getD (sg.length - 1) 0), RsOk sg rs) := by decide +kernel
theorem known_ok {sg : W} (h : sg ∈ Signs) {rs : List Rl} (hm : rs ∈ knownMenu (sg.getD 0 0) (sg.getD (sg.length - 1) 0)) (hr : Res rs ∧ sg.getD 0 0 ≠ sg.getD (sg.length - 1) 0 ∨ rs ∈ (knownMenu (sg.getD 0 0) (sg.getD (sg.length - 1) 0)).take 4) : Set7 sg rs := by
  have h1 := known_ok0 sg h
  have h2 := List.all_eq_true.mp known4_res sg h
  rcases hr with ⟨hr, hne⟩ | hr
  · rcases h1.2 with h3 | h3
    · exact absurd h3 hne
    · exact ⟨h3 rs hm, conf_of (h3 rs hm).good hr⟩
  · exact ⟨h1.1 rs hr, conf_of (h1.1 rs hr).good (res_of (List.all_eq_true.mp h2 rs hr))⟩
theorem tab_len : ∀ sg ∈ Signs, ∀ k ∈ List.range 8, (tabRules sg k).length ≤ 20 := by decide +kernel
theorem known_len (a b : Nat) : ∀ rs ∈ knownMenu a b, rs.length ≤ 20 := fun rs h => by
  unfold knownMenu at h
  simp only [List.mem_cons, List.not_mem_nil, or_false] at h
  rcases h with rfl | rfl | rfl | rfl | rfl | rfl | rfl | rfl | rfl | rfl | rfl | rfl <;> exact Nat.le_of_ble_eq_true rfl
def S_law_book : List Dat → (Dat → Prop) → Prop := fun ds R => ∃ (sg : W) (n : Nat), ds = [.str sg, .int (n : Int)] ∧ sg ∈ Signs ∧ n ≤ 10 ∧ ∀ rs : List Rl, Set7 sg rs → rs.length ≤ 20 → R (rulesD rs)
theorem ok__law_book (T : Tx P K mg a) : FnOk P wd K mg base CX0 4 a.f__law_book a.d__law_book ["source", "signs", "most"] (spS K S_law_book) :=
  okS T.F__law_book sc__law_book (fun ds R h => by obtain ⟨sg, n, rfl, hsg, hn, hR⟩ := h; rfl) fun cdv A outer s H E hr => by
  refine ⟨_, (pss_cons (ps_set (i := 3) sc__law_book.nd rfl (Or.inl rfl) (pe_call (ok__law_pick T) (hr.mono (by decide)) (by rfl) T.g__law_pick T.k__law_pick T.b__law_pick .nil pass0 (pa_cons (pv 0) (pa_cons pe_int pa_nil))))
 (pss_cons (ps_if (pt_cmpR op_eq (pv 3) pe_int (nomark _))
  (pss_one (ps_ret (pe_call (ok__law_table_rules T) (hr.mono (by decide)) (by rfl) T.g__law_table_rules T.k__law_table_rules T.b__law_table_rules .nil pass0 (pa_cons (pv 0) (pa_cons (pv 1) pa_nil)))))
  pss_nil)
 (pss_cons (ps_if (PW.pt (pw_and (pt_cmpR op_eq (pv 3) pe_int (nomark _)) (pw_and1 (pt_cmpR op_gt (pe_callB (kLen K rfl) (by rfl) T.n_len (by decide +kernel) (pa_cons (pv 1) pa_nil)) pe_int (nomark _)))))
  (pss_one (ps_ret (pe_slice (kSlA K rfl) (pe_tup (pa_cons (pe_tup (pa_cons (pe_slice sl_str (pv 1) po_none (po_some pe_int)) (pa_cons pe_str pa_nil))) (pa_cons (pe_tup (pa_cons (pe_op op_addS (pe_ix ix_str (pv 1) pe_int (fun _ _ => rfl)) (pe_ix ix_str (pv 1) pe_int (fun _ _ => rfl))) (pa_cons pe_str pa_nil))) pa_nil))) po_none (po_some (pe_op op_add pe_int (pe_call (ok__law_pick T) (hr.mono (by decide)) (by rfl) T.g__law_pick T.k__law_pick T.b__law_pick .nil pass0 (pa_cons (pv 0) (pa_cons pe_int pa_nil))))))))
  pss_nil)
 (pss_cons (ps_if (pt_cmpR op_eq (pv 3) pe_int (nomark _))
  (pss_one (ps_ret (pe_call (ok__law_known T) (hr.mono (by decide)) (by rfl) T.g__law_known T.k__law_known T.b__law_known .nil pass0 (pa_cons (pv 0) (pa_cons (pe_ix ix_str (pv 1) pe_int (fun _ _ => rfl)) (pa_cons (pe_ix ix_str (pv 1) (pe_op op_sub (pe_callB (kLen K rfl) (by rfl) T.n_len (by decide +kernel) (pa_cons (pv 1) pa_nil)) pe_int) (fun _ _ => rfl)) pa_nil))))))
  pss_nil)
 (pss_one (ps_ret (pe_call (ok__law_grown T) (hr.mono (by decide)) (by rfl) T.g__law_grown T.k__law_grown T.b__law_grown .nil pass0 (pa_cons (pv 0) (pa_cons (pv 1) (pa_cons (pv 2) (pa_cons (pe_op op_add pe_int (pe_call (ok__law_pick T) (hr.mono (by decide)) (by rfl) T.g__law_pick T.k__law_pick T.b__law_pick .nil pass0 (pa_cons (pv 0) (pa_cons pe_int pa_nil)))) pa_nil))))))))))), fun sA ds R h => ?_⟩
  obtain ⟨sg, n, rfl, hsg, hn, hR⟩ := h
  walk_at "start"
  have hs := signs_ok sg hsg
  have hs1 := hs.1.1
  have hs2 := hs.1.2.1
  have g0 : sg[0]? = some (sg.getD 0 0) := by rw [List.getD_eq_getElem?_getD, List.getElem?_eq_getElem (by omega)]; rfl
  have gl : sg[sg.length - 1]? = some (sg.getD (sg.length - 1) 0) := by rw [List.getD_eq_getElem?_getD, List.getElem?_eq_getElem (by omega)]; rfl
  walk_at "w"
  refine ⟨_, rfl, by decide, by decide, fun d hd => ?_⟩
  walk_at "w"
  refine BV.c_dec (fun h0 => ?_) fun h0 => ?_
  · walk_at "w"
    refine ⟨sg, rfl, hs1, hs2, fun k hk => ?_⟩
    walk_at "w"
    exact hR _ (tab_ok hsg hk) (tab_len sg hsg _ (List.mem_range.mpr hk))
  refine run_next ?_
  refine run_seq (run_cut (fun ρ' => ρ' = [.src sA, .d (.str sg), .d (.int (n : Int)), .d (.int (d : Int))]) ?_ ?_)
  · walk_at "w"
    refine BV.c_dec (fun h1 => ?_) fun h1 => ?_
    · walk_at "w"
      refine BV.c_dec (fun hl => ?_) fun hl => ?_
      · have hl2 : 1 < sg.length := by omega
        obtain ⟨w1, w2⟩ := way1_ok hsg hl2
        have g1 : sg[1]? = some (sg.getD 1 0) := by rw [List.getD_eq_getElem?_getD, List.getElem?_eq_getElem hl2]; rfl
        walk_at "w"
        refine o2_ixS (by omega) (at_nat (i := 1) g1) ?_
        walk_at "w"
        refine o2_ixS (by omega) (at_nat (i := 0) g0) ?_
        walk_at "w"
        refine ⟨_, rfl, by decide, by decide, fun e he => ?_⟩
        walk_at "w"
        rw [cut_to _ (by omega), cut_to _ (by omega)]
        rcases (show e = 0 ∨ e = 1 by omega) with rfl | rfl
        · exact hR _ w1 (Nat.le_of_ble_eq_true rfl)
        · exact hR _ w2 (Nat.le_of_ble_eq_true rfl)
      · walk_at "w"
        rfl
    · walk_at "w"
      rfl
  · rintro ρ' rfl
    walk_at "w"
    refine BV.c_dec (fun h2 => ?_) fun h2 => ?_
    · walk_at "w"
      refine o2_ixS (by omega) (at_nat (i := 0) g0) ?_
      walk_at "w"
      have gl2 := at_nat gl
      rw [show ((sg.length - 1 : Nat) : Int) = (sg.length : Int) - 1 by omega] at gl2
      refine o2_ixS (by omega) gl2 ?_
      walk_at "w"
      refine ⟨_, _, rfl, fun rs hm hr => ?_⟩
      walk_at "w"
      exact hR _ (known_ok hsg hm hr) (known_len _ _ _ hm)
    · walk_at "w"
      refine ⟨_, rfl, by decide, by decide, fun e he => ?_⟩
      walk_at "w"
      refine ⟨sg, n, 2 + e, rfl, hs.1, hn, by omega, by omega, fun rs h hl20 => ?_⟩
      walk_at "w"
      exact hR _ h hl20

end

end
section
open PySem L2 BV WM
local macro_rules | `(tactic| walk_at "v") => `(tactic| first
  | ((with_reducible refine' BV.g_var ?hh ?_); (case hh => rfl))
  | ((with_reducible refine' BV.g_own ?hh ?_); (case hh => rfl))
  | ((with_reducible refine' BV.g_ownD ?hh ?_); (case hh => rfl))
  | with_reducible refine BV.g_int ?_
  | with_reducible refine BV.g_str ?_
  | with_reducible refine BV.g_bl ?_
  | with_reducible refine BV.g_non ?_
  | (with_reducible refine BV.g_oth ?_))
local macro_rules | `(tactic| walk_at "o") => `(tactic| first
  | with_reducible refine BV.o2_I0 ?_
  | with_reducible refine BV.o2_I0b ?_
  | ((with_reducible refine BV.o2_I ?hc ?_); (case hc => first | decide | omega | exact Or.inl ⟨by omega, by omega⟩ | exact Or.inr ⟨by omega, by omega⟩ | exact Or.inl (BV.fm64 (by decide) (by decide)) | (show (_ : Int) ≠ (0 : Int); omega) | (show (0 : Int) ≤ _; omega) | (constructor <;> first | decide | omega)))
  | with_reducible refine BV.o2_I ?_ ?_
  | with_reducible refine BV.o1_U ?_
  | ((with_reducible refine BV.o2_addS ?hc ?_); (case hc => first | omega | (simp only [List.length_append, List.length_cons, List.length_nil]; omega) | (refine Nat.le_trans (Nat.add_le_add (BV.cut_le _ _ _) (Nat.le_refl _)) ?_; (try simp only [List.length_append, List.length_cons, List.length_nil]); omega) | (refine Nat.le_trans (Nat.add_le_add (Nat.le_refl _) (BV.cut_le _ _ _)) ?_; (try simp only [List.length_append, List.length_cons, List.length_nil]); omega) | (refine Nat.le_trans (Nat.add_le_add (BV.cut_le _ _ _) (BV.cut_le _ _ _)) ?_; omega)))
  | with_reducible refine BV.o2_addS ?_ ?_
  | with_reducible refine BV.o2_ltS ?_
  | with_reducible refine BV.o2_geS ?_
  | with_reducible refine BV.o2_inS ?_
  | with_reducible refine BV.o2_sub ?_
  | with_reducible refine BV.o2_eqI ?_
  | with_reducible refine BV.o2_neI ?_
  | with_reducible refine BV.o2_eqS ?_
  | with_reducible refine BV.o2_neS ?_
  | with_reducible refine BV.o2_eqB ?_
  | with_reducible refine BV.o2_neB ?_
  | with_reducible refine BV.o2_ltKey ?_
  | ((with_reducible refine BV.o2_isN ?hc ?_); (case hc => (intro _ hh; cases hh; done)))
  | ((with_reducible refine' BV.o2_ixL ?hc ?_); (case hc => first | rfl | assumption | exact BV.at_map (by assumption) | exact BV.at_nat (by assumption) | exact BV.at_zero))
  | with_reducible refine BV.o2_ixL ?_ ?_
  | ((with_reducible refine' BV.o2_ixT ?hc ?_); (case hc => first | rfl | assumption | exact BV.at_map (by assumption) | exact BV.at_nat (by assumption) | exact BV.at_zero))
  | with_reducible refine BV.o2_ixT ?_ ?_
  | with_reducible refine BV.o2_ixScr ?_ ?_
  | with_reducible refine BV.o2_ixS ?_ ?_ ?_
  | with_reducible refine BV.o2_cat ?_ ?_
  | with_reducible refine BV.o2_rep ?_ ?_ ?_ ?_
  | ((with_reducible refine BV.oc_len_str ?hc ?_); (case hc => first | omega | (simp only [List.length_append, List.length_cons, List.length_nil]; omega)))
  | with_reducible refine BV.oc_len_str ?_ ?_
  | with_reducible refine BV.oc_len_lst ?_
  | with_reducible refine BV.oc_len_tup ?_
  | with_reducible refine BV.oc_len_scr ?_
  | with_reducible refine BV.oc_int ?_
  | with_reducible refine BV.oc_intB ?_
  | with_reducible refine BV.oc_boolB ?_
  | with_reducible refine BV.oc_abs ?_
  | with_reducible refine BV.oc_max2 ?_
  | with_reducible refine BV.oc_min2 ?_
  | ((with_reducible refine BV.oc_isi_tup (b := true) ?hk ?_); (case hk => decide +kernel))
  | ((with_reducible refine BV.oc_isi_tup (b := false) ?hk ?_); (case hk => decide +kernel))
  | ((with_reducible refine BV.oc_isi_lst (b := true) ?hk ?_); (case hk => decide +kernel))
  | ((with_reducible refine BV.oc_isi_lst (b := false) ?hk ?_); (case hk => decide +kernel))
  | ((with_reducible refine BV.oc_isi_str (b := true) ?hk ?_); (case hk => decide +kernel))
  | ((with_reducible refine BV.oc_isi_str (b := false) ?hk ?_); (case hk => decide +kernel))
  | ((with_reducible refine BV.oc_isi_int (b := true) ?hk ?_); (case hk => decide +kernel))
  | ((with_reducible refine BV.oc_isi_int (b := false) ?hk ?_); (case hk => decide +kernel))
  | ((with_reducible refine BV.oc_isi_bl (b := true) ?hk ?_); (case hk => decide +kernel))
  | ((with_reducible refine BV.oc_isi_bl (b := false) ?hk ?_); (case hk => decide +kernel))
  | ((with_reducible refine BV.oc_isi_non (b := true) ?hk ?_); (case hk => decide +kernel))
  | ((with_reducible refine BV.oc_isi_non (b := false) ?hk ?_); (case hk => decide +kernel))
  | with_reducible refine BV.oc_repr_bl ?_
  | with_reducible refine BV.oc_repr_non ?_
  | with_reducible refine BV.oc_repr_str ?_ ?_ ?_)
local macro_rules | `(tactic| walk_at "g") => `(tactic| first
  | ((with_reducible refine' BV.g_ixO ?hh ?_); (case hh => rfl))
  | ((with_reducible refine' BV.g_srcIx ?hh ?hk (fun zz => ?_)); (case hh => rfl); (case hk => decide))
  | with_reducible refine BV.g_ixL ?_
  | with_reducible refine BV.g_ixT ?_
  | ((with_reducible refine' BV.g_catO ?hh ?_); (case hh => rfl))
  | with_reducible refine BV.g_cat ?_
  | with_reducible refine BV.g_rep ?_
  | with_reducible refine BV.g_op ?_
  | with_reducible refine BV.g_un ?_
  | with_reducible refine BV.ga_cons ?_
  | with_reducible refine BV.ga_nil ?_
  | ((with_reducible refine' BV.g_tupleO ?hh ?_); (case hh => rfl))
  | with_reducible refine BV.g_tuple ?_
  | with_reducible refine BV.g_list ?_
  | with_reducible refine BV.g_cb ?_
  | with_reducible refine BV.g_tup ?_
  | with_reducible refine BV.g_lst ?_
  | with_reducible refine BV.gt_test ?_
  | with_reducible refine BV.gt_B ?_
  | with_reducible refine BV.gt_and ?_
  | with_reducible refine BV.gt_or ?_
  | with_reducible refine BV.gt_not ?_
  | with_reducible refine BV.gt_tr ?_
  | with_reducible refine BV.gt_yes ?_
  | with_reducible refine BV.g_if ?_
  | with_reducible refine BV.g_andV ?_
  | with_reducible refine BV.g_orV ?_
  | with_reducible refine BV.g_notV ?_
  | with_reducible refine BV.g_chain ?_
  | with_reducible refine BV.g_slS ?_
  | ((with_reducible refine' BV.g_slScrV ?hh ?_); (case hh => rfl))
  | with_reducible refine BV.g_slL ?_
  | with_reducible refine BV.g_slT ?_
  | with_reducible refine BV.g_slA ?_
  | with_reducible refine BV.go_no ?_
  | with_reducible refine BV.go_some ?_
  | with_reducible refine BV.g_dget1 ?_
  | with_reducible refine BV.g_dget2 ?_
  | ((with_reducible refine' BV.g_dixO ?hh ?_); (case hh => rfl))
  | with_reducible refine BV.g_dix ?_
  | with_reducible refine BV.g_din ?_
  | with_reducible refine BV.g_dnotin ?_
  | ((with_reducible refine' BV.g_fldI ?cl ?na ?he ?hl ?_); (case he => rfl); (case cl => assumption); (case na => assumption); (case hl => rfl))
  | ((with_reducible refine' BV.g_fld ?cl ?na ?_); (case cl => assumption); (case na => assumption))
  | ((with_reducible refine' BV.e_fld ?hl ?_); (case hl => rfl))
  | with_reducible refine BV.g_ends ?_
  | with_reducible refine BV.g_starts ?_
  | with_reducible refine BV.g_join ?_
  | ((with_reducible refine' BV.g_callS ?hh ?_); (case hh => rfl))
  | with_reducible refine BV.g_call ?_
  | with_reducible refine BV.g_cO ?_
  | with_reducible refine BV.g_make ?_
  | with_reducible refine BV.gi_list ?_
  | with_reducible refine BV.gi_tup ?_
  | with_reducible refine BV.gi_sq ?_
  | with_reducible refine BV.gi_str ?_
  | with_reducible refine BV.gi_rng1 ?_
  | with_reducible refine BV.gi_rng2 ?_
  | with_reducible refine BV.gi_rng3 ?_)
local macro_rules | `(tactic| walk_at "e") => `(tactic| first
  | with_reducible refine BV.e_int ?_
  | with_reducible refine BV.e_bl ?_
  | with_reducible refine BV.e_str ?_
  | with_reducible refine BV.e_tup ?_
  | with_reducible refine BV.e_lst ?_
  | with_reducible refine BV.e_scr ?_
  | with_reducible refine BV.e_dk ?_
  | with_reducible refine BV.e_own ?_
  | with_reducible refine BV.e_obj ?_
  | with_reducible refine BV.e_i1 ?_
  | with_reducible refine BV.e_i2 ?_
  | with_reducible refine BV.e_keyS ?_
  | with_reducible refine BV.e_keyI ?_
  | with_reducible refine BV.e_truL ?_
  | with_reducible refine BV.e_truT ?_
  | with_reducible refine BV.e_truB ?_
  | with_reducible refine BV.e_truN ?_
  | with_reducible refine BV.e_truI ?_
  | ((with_reducible refine BV.e_truS ?hc ?_); (case hc => omega))
  | with_reducible refine BV.e_tl ?_
  | with_reducible refine BV.e_tt ?_
  | ((with_reducible refine BV.c_len ?hc ?_); (case hc => rfl))
  | ((with_reducible refine BV.c_rng ?ha ?hb ?_); (case ha => first | omega | (simp only [List.length_map]; omega)); (case hb => first | omega | (simp only [List.length_map]; omega)))
  | ((with_reducible refine BV.c_rng2 ?ha ?hb ?hc ?hd ?_); (case ha => first | omega | (simp only [List.length_map]; omega)); (case hb => first | omega | (simp only [List.length_map]; omega)); (case hc => first | omega | (simp only [List.length_map]; omega)); (case hd => first | omega | (simp only [List.length_map]; omega)))
  | ((with_reducible refine BV.c_lt6 ?ha ?_); (case ha => first | omega | (simp only [List.length_map, List.length_append, List.length_cons, List.length_nil]; omega)))
  | ((with_reducible refine BV.c_le6 ?ha ?_); (case ha => first | omega | (simp only [List.length_map, List.length_append, List.length_cons, List.length_nil]; omega)))
  | with_reducible refine BV.c_i0 ?_
  | with_reducible refine BV.c_i1 ?_
  | with_reducible refine BV.c_non ?_
  | with_reducible refine BV.c_str ?_
  | with_reducible refine BV.c_tup ?_
  | ((with_reducible refine BV.c_dt ?hc ?_); (case hc => first | omega | assumption | (simp only [List.length_cons, List.length_nil]; omega)))
  | ((with_reducible refine BV.c_df ?hc ?_); (case hc => first | omega | assumption | (simp only [List.length_cons, List.length_nil]; omega)))
  | ((with_reducible refine BV.c_ndt ?hc ?_); (case hc => first | omega | assumption | (simp only [List.length_cons, List.length_nil]; omega)))
  | ((with_reducible refine BV.c_ndf ?hc ?_); (case hc => first | omega | assumption | (simp only [List.length_cons, List.length_nil]; omega)))
  | ((with_reducible refine' BV.c_at0 ?hh ?_); (case hh => rfl))
  | with_reducible refine BV.c_nnon ?_
  | with_reducible refine BV.c_nstr ?_
  | with_reducible refine BV.c_ntup ?_
  | with_reducible refine BV.e_ret ?_
  | with_reducible refine BV.c_nt ?_
  | with_reducible refine BV.c_nf ?_
  | with_reducible refine BV.c_tt ?_
  | with_reducible refine BV.c_ff ?_)
local macro_rules | `(tactic| walk_at "r") => `(tactic| first
  | ((with_reducible show BV.Run _ (List.set _ _ _) _ _ _ _ _); dsimp only [List.set])
  | ((with_reducible show BV.Run _ (BV.startS _ _) _ _ _ _ _); dsimp only [BV.startS, List.map, List.length, List.append, List.replicate, List.cons_append, List.nil_append, Nat.reduceSub, Nat.reduceAdd])
  | with_reducible refine BV.run_seq ?_
  | ((with_reducible refine' BV.run_srcSet ?hh ?hk ?_); (case hh => rfl); (case hk => decide))
  | with_reducible refine BV.run_asgN (BV.gn_dk ?_)
  | with_reducible refine BV.run_asgN (BV.gn_dt ?_)
  | with_reducible refine BV.run_asgN (BV.gn_lst (BV.ga_nil ⟨by decide, ?_⟩))
  | ((with_reducible refine' BV.run_asgN (BV.gn_disp1 ?hv ?_)); (case hv => first | exact fun _ => .int _ | exact fun _ => .bl _))
  | ((with_reducible refine' BV.run_asgN (BV.gn_dispV ?hh ?hv ?_)); (case hh => rfl); (case hv => first | exact fun _ => .int _ | exact fun _ => .bl _))
  | with_reducible refine BV.run_asgN (BV.gn_lst ?_)
  | ((with_reducible refine' BV.run_pop ?hh ?_); (case hh => rfl))
  | with_reducible refine BV.run_src ?_
  | with_reducible refine BV.run_asg ?_
  | with_reducible refine BV.run_asgG ?_
  | with_reducible refine BV.run_if ?_
  | ((with_reducible refine' BV.run_app ?hh ?_); (case hh => rfl))
  | ((with_reducible refine' BV.run_retO ?hh ?_); (case hh => rfl))
  | ((with_reducible refine' BV.run_retOD ?hh ?_); (case hh => rfl))
  | with_reducible refine BV.run_retSrc ?_
  | with_reducible refine BV.run_ret ?_
  | with_reducible refine BV.run_retN ?_
  | with_reducible refine BV.run_next ?_
  | with_reducible refine BV.run_brk ?_
  | with_reducible refine BV.run_cont ?_
  | with_reducible refine BV.run_for ?_
  | ((with_reducible refine' BV.run_dput ?hh ?_); (case hh => rfl))
  | ((with_reducible refine' BV.run_fldI ?cl ?na ?he ?hz ?_); (case he => rfl); (case cl => assumption); (case na => assumption); (case hz => exact of_decide_eq_true rfl))
  | with_reducible refine BV.run_drop ?_
  | with_reducible refine BV.gg_name ?_
  | ((with_reducible refine' BV.gg_tup ?hh ?_); (case hh => rfl))
  | with_reducible refine BV.ggs_nil ?_
  | with_reducible refine BV.ggs_cons ?_
  | ((with_reducible refine' BV.gc_name ?hh ?_); (case hh => decide))
  | ((with_reducible refine' BV.gc_tup ?hh ?_); (case hh => rfl))
  | with_reducible refine BV.gcs_nil ?_
  | with_reducible refine BV.gcs_cons ?_)
local macro_rules | `(tactic| walk_at "s") => `(tactic| first | walk_at "v" | walk_at "o" | walk_at "e" | walk_at "g" | walk_at "r")
local macro_rules | `(tactic| walk_at "start") => `(tactic| (dsimp only [L2.cxOf, L2.Cx.nox, L2.Cx.wish, L2.Cx.blk, BV.startS, List.map, List.length, List.append, List.replicate, List.cons_append, List.nil_append, List.tail, Nat.reduceSub, Nat.reduceAdd, Nat.sub_self, Nat.sub_zero]))
local macro_rules | `(tactic| walk_at "w") => `(tactic| repeat walk_at "s")
local macro_rules | `(tactic| walk_at "o") => `(tactic| first
  | with_reducible refine BV.o2_inN ?_
  | with_reducible refine BV.o2_inZ ?_
  | ((with_reducible refine' BV.o2_ixQL ?hc ?_); (case hc => first | rfl | assumption | exact BV.at_map (by assumption) | exact BV.at_nat (by assumption) | exact BV.at_zero))
  | ((with_reducible refine' BV.o2_ixQT ?hc ?_); (case hc => first | rfl | assumption | exact BV.at_map (by assumption) | exact BV.at_nat (by assumption) | exact BV.at_zero))
  | with_reducible refine BV.o2_ixQL ?_ ?_
  | with_reducible refine BV.o2_ixQT ?_ ?_
  | with_reducible refine BV.oc_gcd ?_
  | with_reducible refine BV.oc_repr_int ?_ ?_
  | with_reducible refine BV.oc_reprD ?_ ?_)
local macro_rules | `(tactic| walk_at "g") => `(tactic| first
  | with_reducible refine BV.g_ixQ ?_
  | with_reducible refine BV.g_opRS ?_
  | with_reducible refine BV.g_callX ?_
  | with_reducible refine BV.g_lrg ?_
  | with_reducible refine BV.gr_1 ?_
  | with_reducible refine BV.gr_2 ?_
  | ((with_reducible refine' BV.g_xf ?hh ?hk ?_); (case hh => rfl); (case hk => rfl)))
local macro_rules | `(tactic| walk_at "r") => `(tactic| first
  | with_reducible refine BV.run_par ?_)
local macro_rules | `(tactic| walk_at "o") => `(tactic| first
  | with_reducible refine BV.oc_strI ?_ ?_
  | with_reducible refine BV.oc_divmod ?_ ?_)
local macro_rules | `(tactic| walk_at "g") => `(tactic| first
  | with_reducible refine BV.g_mthF ?_
  | with_reducible refine BV.g_mthX ?_
  | with_reducible refine BV.g_makeX ?_)
local macro_rules | `(tactic| walk_at "r") => `(tactic| first
  | with_reducible refine BV.run_dropS ?_)
local macro_rules | `(tactic| walk_at "e") => `(tactic| first
  | with_reducible refine BV.c_le1 ?_
  | with_reducible refine BV.c_le0 ?_
  | with_reducible refine BV.c_ne1 ?_
  | with_reducible refine BV.c_ne0 ?_)
local macro_rules | `(tactic| walk_at "v") => `(tactic| first
  | ((with_reducible refine' BV.g_tupK ?hh ?_); (case hh => assumption)))
local macro_rules | `(tactic| walk_at "g") => `(tactic| first
  | with_reducible refine BV.g_isi2 ?_)
local macro_rules | `(tactic| walk_at "g") => `(tactic| first
  | with_reducible refine BV.g_catA ?_)
local macro_rules | `(tactic| walk_at "o") => `(tactic| first
  | with_reducible refine BV.o2_nin2 ?_
  | ((with_reducible refine' BV.o2_catA ?hc ?_); (case hc => first | omega | (simp only [List.length_append, List.length_cons, List.length_nil, List.length_map]; omega)))
  | with_reducible refine BV.o2_catA ?_ ?_)
local macro_rules | `(tactic| walk_at "g") => `(tactic| first
  | with_reducible refine BV.g_prop ?_)
local macro_rules | `(tactic| walk_at "o") => `(tactic| first
  | with_reducible refine BV.o2_nin24 ?_
  | with_reducible refine BV.o2_inNon2 ?_)
local macro_rules | `(tactic| walk_at "o") => `(tactic| first
  | with_reducible refine BV.oc_min3 ?_
  | with_reducible refine BV.o2_repS ?_ ?_ ?_ ?_)
local macro_rules | `(tactic| walk_at "g") => `(tactic| first
  | ((with_reducible refine' BV.g_slO ?hh ?_); (case hh => rfl)))
local macro_rules | `(tactic| walk_at "o") => `(tactic| first
  | with_reducible refine BV.oc_boolO ?_
  | with_reducible refine BV.o2_eqO ?_)
local macro_rules | `(tactic| walk_at "g") => `(tactic| first
  | ((with_reducible refine' BV.g_dinV ?hh ?_); (case hh => rfl))
  | with_reducible refine BV.g_notT ?_
  | with_reducible refine BV.g_revT ?_
  | with_reducible refine BV.gt_trO ?_
  | with_reducible refine BV.gi_keys ?_)

section
variable {P : Program} {wd : World} {K : PySem.W.Frag} {mg : Str → Option Value} {base : Heap} {a : Ad}
local macro_rules | `(tactic| walk_at "g") => `(tactic| first
  | with_reducible refine BV.g_idx ?_
  | ((with_reducible refine' BV.g_fld ?cl ?na ?_); (case na => assumption); (case cl => assumption)))
theorem oke_WrongThingu_initu (T : Tx P K mg a) : FnOk P wd K mg base CX0 1 a.f_WrongThingu_initu a.d_WrongThingu_initu ["self", "thing"] (spE K a.C_WrongThing (sE1 "thing" (fun y => True))) :=
  okE1 (k := 0) (n := 1) T.F_WrongThingu_initu sc_WrongThingu_initu T.su_WrongThingu_initu rfl rfl rfl rfl (by decide) (fun _ => rfl) (fun _ => rfl) (fun _ => rfl) (fun _ => rfl) rfl rfl (by decide) fun A outer s H E hr => by
  refine ⟨_, (pa_cons pe_str pa_nil), (pss_one (ps_ost (pv 0) (pv 1))), fun y hy => ?_⟩
  obtain ⟨⟩ := hy
  unfold BV.startE
  dsimp only [NdefX.ncx, List.map, List.replicate, List.cons_append, List.nil_append, List.append]
  walk_at "w"
  exact Nat.le_of_ble_eq_true rfl
theorem strk (k : Int) (h : -1 ≤ k) (h2 : k ≤ 8) : (sW (toString k)).length ≤ 100 := by
  have : k = -1 ∨ k = 0 ∨ k = 1 ∨ k = 2 ∨ k = 3 ∨ k = 4 ∨ k = 5 ∨ k = 6 ∨ k = 7 ∨ k = 8 := by omega
  rcases this with rfl | rfl | rfl | rfl | rfl | rfl | rfl | rfl | rfl | rfl <;> decide +kernel
theorem oke_WrongItemu_initu (T : Tx P K mg a) : FnOk P wd K mg base CX0 1 a.f_WrongItemu_initu a.d_WrongItemu_initu ["self", "place"] (spE K a.C_WrongItem (sE1 "place" (fun y => ∃ k : Int, y = .int k ∧ -1 ≤ k ∧ k ≤ 8))) :=
  okE1 (k := 0) (n := 1) T.F_WrongItemu_initu sc_WrongItemu_initu T.su_WrongItemu_initu rfl rfl rfl rfl (by decide) (fun _ => rfl) (fun _ => rfl) (fun _ => rfl) (fun _ => rfl) rfl rfl (by decide) fun A outer s H E hr => by
  refine ⟨_, (pa_cons (pe_op op_addS (pe_op op_addS pe_str (pe_callTy call_strI (by rfl) T.n_str (by decide +kernel) (pa_cons (pv 1) pa_nil))) pe_str) pa_nil), (pss_one (ps_ost (pv 0) (pv 1))), fun y hy => ?_⟩
  obtain ⟨k, rfl, hk, hk2⟩ := hy
  unfold BV.startE
  dsimp only [NdefX.ncx, List.map, List.replicate, List.cons_append, List.nil_append, List.append]
  have hl : k.natAbs.log2 < 1920 := Nat.lt_of_le_of_lt (Nat.log2_le_self _) (by omega)
  have e0 : (Str.ofString "the thing at the place ").cps.toList.length = 23 := by decide +kernel
  have e1 : (Str.ofString " is wrong").cps.toList.length = 9 := by decide +kernel
  have e2 := strk k hk hk2
  walk_at "w"
  · exact hl
  walk_at "w"
  exact Nat.le_of_ble_eq_true rfl
def S_ctX (a : Ad) : List Dat → (Dat → Prop) → RX → Prop := fun ds R RE => ∃ (sg : W) (x : Dat), ds = [.str sg, x] ∧ sg.length ≤ 1000 ∧ TxA x ∧ isTx sg x 0 200 = false ∧ RE a.C_BadText [("thing", x)]
theorem okx_check_text (T : Tx P K mg a) : FnOk P wd K mg base (L2.CX P wd) 3 a.f_check_text a.d_check_text ["signs", "thing"] (spX K (S_ctX a)) :=
  okX T.F_check_text sc_check_text (fun ds R RE h => by obtain ⟨sg, x, rfl, h1, h2, h3, hX⟩ := h; rfl) fun cdv A outer s H E hr => by
  have tk : Takes (cxOf (L2.CX P wd) P wd K mg base N_check_text "check_text" (defScope s_check_text) a.f_check_text cdv A outer s H E) (fun cls d _ H => E cls d H) := takes_of rfl rfl rfl rfl
  have po := passes_of (X := cxOf (L2.CX P wd) P wd K mg base N_check_text "check_text" (defScope s_check_text) a.f_check_text cdv A outer s H E) rfl
  refine ⟨_, (pss_one (ps_if (pt_not (pt_val (pe_call (ok_is_text T) (hr.mono (by decide)) (by rfl) T.g_is_text T.k_is_text T.b_is_text .nil pass0 (pa_cons (pv 0) (pa_cons (pv 1) (pa_cons pe_int (pa_cons (pe_glob (v := .int 200) rfl T.c_LONGEST_TEXT ⟨_, rfl⟩) pa_nil)))))))
  (pss_one (ps_raise rfl tk (pmk_oex T.oe_BadText T.oi_BadText T.ot_WrongThingu_initu (oke_WrongThingu_initu T) (hr.mono (by decide)) T.b_WrongThingu_initu .nil pass0 (by rfl) T.g_BadText (pa_cons (pv 1) pa_nil))))
  pss_nil)), fun ds R RE h => ?_⟩
  obtain ⟨sg, x, rfl, h1, h2, h3, hX⟩ := h
  walk_at "start"
  walk_at "w"
  refine ⟨sg, x, 0, 200, rfl, h1, h2, ?_⟩
  rw [h3]
  walk_at "w"
  refine run_raise T.oe_BadText T.sx_BadText (fun ds fs h f hf => ?_) ?_
  · obtain ⟨y, rfl, rfl, _⟩ := h
    rw [List.mem_singleton] at hf
    subst hf
    exact T.xn_BadText_thing
  · walk_at "w"
    exact ⟨Nat.le_of_ble_eq_true rfl, [("thing", x)], ⟨_, rfl, rfl, trivial⟩, hX⟩
theorem eqv_rules : ∀ rs qs : List Rl, PyData.eqvAll (toPs (rs.map ruleD)) (toPs (qs.map ruleD)) = decide (rs = qs)
  | [], [] => rfl
  | [], _ :: _ => rfl
  | _ :: _, [] => rfl
  | r :: rs, q :: qs => by
    show (PyData.eqv (toP (ruleD r)) (toP (ruleD q)) && PyData.eqvAll (toPs (rs.map ruleD)) (toPs (qs.map ruleD))) = _
    rw [eqv_rule, eqv_rules rs qs, Bool.eq_iff_iff]
    simp [Bool.and_eq_true]
theorem shp_rulesT {rs : List Rl} (h : ∀ r ∈ rs, RLw r) : shp (rulesD rs) = true := by
  obtain ⟨h1, h2⟩ := can_rules h
  unfold shp SeqAt.shaped
  rw [Bool.and_eq_true, Bool.and_eq_true]
  refine ⟨pln_rules rs, ?_, ?_⟩
  · show PyData.canLay0 (.tuple _) = true
    simp only [PyData.canLay0]
    exact h1
  · refine decide_eq_true ?_
    show PyData.depth (.tuple _) ≤ 64
    simp only [PyData.depth]
    omega
theorem deq_rules (rs qs : List Rl) : deq (rulesD rs) (rulesD qs) = decide (rs = qs) := by
  show PyData.eqv (.tuple _) (.tuple _) = _
  simp only [PyData.eqv]
  exact eqv_rules rs qs
def S_book_eq (C : Addr) : List Dat → (Dat → Prop) → Prop := fun ds R => ∃ (sg sg' : W) (rs qs : List Rl) (o o' : Option W) (mv mv' : Dat), ds = [.obj C (bookF sg rs o mv), .obj C (bookF sg' qs o' mv')] ∧ (∀ r ∈ rs, RLw r) ∧ (∀ r ∈ qs, RLw r) ∧ R (.bl (decide (sg = sg') && decide (rs = qs)))
theorem ok_Booku_equ (T : Tx P K mg a) : FnOk P wd K mg base CX0 1 a.f_Booku_equ a.d_Booku_equ ["self", "other"] (spF K (S_book_eq a.C_Book)) :=
  okF T.F_Booku_equ sc_Booku_equ (fun ds R h => by obtain ⟨sg, sg', rs, qs, o, o', mv, mv', rfl, hrs, hqs, hR⟩ := h; rfl) fun cdv A outer s H E hr => by
  refine ⟨_, (pss_one (ps_ret (pe_and (pe_callB (kIsi K rfl) (by rfl) T.n_isinstance (by decide +kernel) (pa_cons (pv 1) (pa_cons (pe_glob (v := .ref a.C_Book) rfl T.g_Book rfl) pa_nil))) (pe_and (pe_cmpR op_eq (pe_fld (pv 0) rfl) (pe_fld (pv 1) rfl) (nomark _)) (pe_one (pe_cmpR (kEqD K rfl hr.units) (pe_fld (pv 0) rfl) (pe_fld (pv 1) rfl) (nomark _))))))), fun ds R h => ?_⟩
  obtain ⟨sg, sg', rs, qs, o, o', mv, mv', rfl, hrs, hqs, hR⟩ := h
  walk_at "start"
  have cB := T.l_Book; have xB1 := T.x_Book_signs; have xB2 := T.x_Book_rules; have xB3 := T.x_Book__lefts; have xB4 := T.x_Book__longest; have xB5 := T.x_Book__quarrel; have xB6 := T.x_Book__moves
  walk_at "w"
  refine oc_isiO cB T.ic_Book ?_
  walk_at "w"
  by_cases e : sg = sg'
  · rw [decide_eq_true e] at hR ⊢
    walk_at "w"
    refine o2_eqD (shp_rulesT hrs) (shp_rulesT hqs) ?_
    rw [deq_rules]
    walk_at "w"
    exact hR
  · rw [decide_eq_false e] at hR ⊢
    walk_at "w"
    exact hR
@[reducible] def optI : Option Nat → Dat
  | none => .non
  | some k => .int (k : Int)
def keepF (n : Option Nat) : List (Str × Dat) := [("holds", .bl n.isNone), ("number", optI n)]
def S_kinit : List Dat → (List (Str × Dat) → Prop) → Prop := fun ds R => ∃ n : Option Nat, ds = [optI n] ∧ R (keepF n)
theorem ok_Keepsu_initu (T : Tx P K mg a) : FnOk P wd K mg base CX0 1 a.f_Keepsu_initu a.d_Keepsu_initu ["self", "number"] (spI K a.C_Keeps S_kinit) :=
  okI T.F_Keepsu_initu sc_Keepsu_initu (fun ds R h => by obtain ⟨n, rfl, hR⟩ := h; rfl) fun cdv A outer s H E hr => by
  refine ⟨_, (pss_cons (ps_fld (pv 0) (pe_cmpR op_isN_ (pv 1) pe_non (nomark _)) rfl)
 (pss_one (ps_fld (pv 0) (pv 1) rfl))), fun sA ds R h => ?_⟩
  obtain ⟨n, rfl, hR⟩ := h
  walk_at "start"
  have cK := T.l_Keeps; have xK1 := T.x_Keeps_holds; have xK2 := T.x_Keeps_number
  cases n with
  | none =>
    walk_at "w"
    exact ⟨_, rfl, hR⟩
  | some n =>
    walk_at "w"
    exact ⟨_, rfl, hR⟩
def S_kbool (C : Addr) : List Dat → (Dat → Prop) → Prop := fun ds R => ∃ n : Option Nat, ds = [.obj C (keepF n)] ∧ R (.bl n.isNone)
theorem ok_Keepsu_boolu (T : Tx P K mg a) : FnOk P wd K mg base CX0 1 a.f_Keepsu_boolu a.d_Keepsu_boolu ["self"] (spF K (S_kbool a.C_Keeps)) :=
  okF T.F_Keepsu_boolu sc_Keepsu_boolu (fun ds R h => by obtain ⟨n, rfl, hR⟩ := h; rfl) fun cdv A outer s H E hr => by
  refine ⟨_, (pss_one (ps_ret (pe_callTy call_bool_ (by rfl) T.n_bool (by decide +kernel) (pa_cons (pe_fld (pv 0) rfl) pa_nil)))), fun ds R h => ?_⟩
  obtain ⟨n, rfl, hR⟩ := h
  walk_at "start"
  have cK := T.l_Keeps; have xK1 := T.x_Keeps_holds; have xK2 := T.x_Keeps_number
  walk_at "w"
  exact hR
abbrev imgsD (ims : List W) : Dat := .tup (ims.map Dat.str)
/-- images of all signs, each of at most m signs -/
structure ImOk (sg sg2 : W) (ims : List W) (m : Nat) : Prop where
  len : ims.length = sg.length
  lo : sg.length ≤ 8
  sh : ∀ w ∈ ims, w.length ≤ m
  ch : ∀ w ∈ ims, ∀ c ∈ w, c ∈ sg2
def S_images (B : Addr) : List Dat → (Dat → Prop) → Prop := fun ds R => ∃ (sg : W) (rs : List Rl) (mv : Dat) (sg2 : W) (rs2 : List Rl) (mv2 x : Dat) (ims : List W), ds = [.obj B (bookF sg rs none mv), .obj B (bookF sg2 rs2 none mv2), x] ∧
  (x = .lst (ims.map Dat.str) ∨ x = .tup (ims.map Dat.str)) ∧ ImOk sg sg2 ims 200 ∧ sg2.length ≤ 8 ∧ R (imgsD ims)
theorem ok_checked_images (T : Tx P K mg a) : FnOk P wd K mg base CX0 2 a.f_checked_images a.d_checked_images ["one", "other", "images"] (spF K (S_images a.C_Book)) :=
  okF T.F_checked_images sc_checked_images (fun ds R h => by obtain ⟨sg, rs, mv, sg2, rs2, mv2, x, ims, rfl, hx, hi, h2, hR⟩ := h; rfl) fun cdv A outer s H E hr => by
  refine ⟨_, (pss_cons (ps_if (PW.pt (pw_or (pt_not (pt_val (pe_call (ok_is_listed T) (hr.mono (by decide)) (by rfl) T.g_is_listed T.k_is_listed T.b_is_listed .nil pass0 (pa_cons (pv 2) pa_nil)))) (pw_or1 (pt_cmpR op_ne (pe_callB (kLen K rfl) (by rfl) T.n_len (by decide +kernel) (pa_cons (pv 2) pa_nil)) (pe_callB (kLen K rfl) (by rfl) T.n_len (by decide +kernel) (pa_cons (pe_fld (pv 0) rfl) pa_nil)) (nomark _)))))
  (pss_one (ps_never))
  pss_nil)
 (pss_cons (ps_for PassesOwn.never rfl (pi_range1 rfl T.n_range (pa_cons (pe_callB (kLen K rfl) (by rfl) T.n_len (by decide +kernel) (pa_cons (pv 2) pa_nil)) pa_nil)) (pg_name (i := 3) sc_checked_images.nd rfl (Or.inl rfl))
  (pss_one (ps_if (pt_not (pt_val (pe_call (ok_is_text T) (hr.mono (by decide)) (by rfl) T.g_is_text T.k_is_text T.b_is_text .nil pass0 (pa_cons (pe_fld (pv 1) rfl) (pa_cons (pe_ix (kIxQ K rfl) (pv 2) (pv 3) (fun _ _ => rfl)) (pa_cons pe_int (pa_cons (pe_glob (v := .int 200) rfl T.c_LONGEST_TEXT ⟨_, rfl⟩) pa_nil)))))))
  (pss_one (ps_never))
  pss_nil)))
 (pss_one (ps_ret (pe_callTy (kTupOf K rfl) (by rfl) T.n_tuple (by decide +kernel) (pa_cons (pv 2) pa_nil)))))), fun ds R h => ?_⟩
  obtain ⟨sg, rs, mv, sg2, rs2, mv2, x, ims, rfl, hx, hi, h2, hR⟩ := h
  walk_at "start"
  have cB := T.l_Book; have xB1 := T.x_Book_signs; have xB2 := T.x_Book_rules; have xB3 := T.x_Book__lefts; have xB4 := T.x_Book__longest; have xB5 := T.x_Book__quarrel; have xB6 := T.x_Book__moves
  have h1 := hi.len
  have hlo := hi.lo
  have hml : (ims.map Dat.str).length = ims.length := List.length_map _
  rcases hx with rfl | rfl
  · walk_at "w"
    refine ⟨_, rfl, .inl ⟨.inr ⟨_, rfl⟩, ?_⟩⟩
    walk_at "w"
    refine ⟨fun i ρ' => ∃ s3, ρ' = [.d (.obj a.C_Book (bookF sg rs none mv)), .d (.obj a.C_Book (bookF sg2 rs2 none mv2)), .d (.lst (ims.map Dat.str)), s3], ⟨_, rfl⟩, fun i x ρ' hx hw => ?_, fun ρ' hw => ?_⟩
    · obtain ⟨s3, rfl⟩ := hw
      obtain ⟨hk, rfl⟩ := rng0_get hx
      rw [Int.toNat_natCast, hml] at hk
      have hat : ims[i]? = some ims[i] := List.getElem?_eq_getElem hk
      have hw1 := hi.sh _ (List.getElem_mem hk)
      have hw2 := hi.ch _ (List.getElem_mem hk)
      generalize ims[i] = w at hat hw1 hw2
      walk_at "w"
      refine ⟨sg2, .str w, 0, 200, rfl, by omega, .inr (.inr (.inr ⟨w, rfl, by omega⟩)), ?_⟩
      rw [isTx_yes (by omega) (by omega) hw2]
      walk_at "w"
      exact ⟨_, rfl⟩
    · obtain ⟨s3, rfl⟩ := hw
      walk_at "w"
      exact hR
  · walk_at "w"
    refine ⟨_, rfl, .inl ⟨.inl ⟨_, rfl⟩, ?_⟩⟩
    walk_at "w"
    refine ⟨fun i ρ' => ∃ s3, ρ' = [.d (.obj a.C_Book (bookF sg rs none mv)), .d (.obj a.C_Book (bookF sg2 rs2 none mv2)), .d (.tup (ims.map Dat.str)), s3], ⟨_, rfl⟩, fun i x ρ' hx hw => ?_, fun ρ' hw => ?_⟩
    · obtain ⟨s3, rfl⟩ := hw
      obtain ⟨hk, rfl⟩ := rng0_get hx
      rw [Int.toNat_natCast, hml] at hk
      have hat : ims[i]? = some ims[i] := List.getElem?_eq_getElem hk
      have hw1 := hi.sh _ (List.getElem_mem hk)
      have hw2 := hi.ch _ (List.getElem_mem hk)
      generalize ims[i] = w at hat hw1 hw2
      walk_at "w"
      refine ⟨sg2, .str w, 0, 200, rfl, by omega, .inr (.inr (.inr ⟨w, rfl, by omega⟩)), ?_⟩
      rw [isTx_yes (by omega) (by omega) hw2]
      walk_at "w"
      exact ⟨_, rfl⟩
    · obtain ⟨s3, rfl⟩ := hw
      walk_at "w"
      exact hR
def sendF (B : Addr) (sg : W) (rs : List Rl) (mv : Dat) (sg2 : W) (rs2 : List Rl) (mv2 : Dat) (ims : List W) : List (Str × Dat) := [("one", .obj B (bookF sg rs none mv)), ("other", .obj B (bookF sg2 rs2 none mv2)), ("images", imgsD ims)]
def S_sinit (B : Addr) : List Dat → (List (Str × Dat) → Prop) → Prop := fun ds R => ∃ (sg : W) (rs : List Rl) (mv : Dat) (sg2 : W) (rs2 : List Rl) (mv2 x : Dat) (ims : List W), ds = [.obj B (bookF sg rs none mv), .obj B (bookF sg2 rs2 none mv2), x] ∧
  (x = .lst (ims.map Dat.str) ∨ x = .tup (ims.map Dat.str)) ∧ ImOk sg sg2 ims 200 ∧ sg2.length ≤ 8 ∧ R (sendF B sg rs mv sg2 rs2 mv2 ims)
theorem ok_Sendingu_initu (T : Tx P K mg a) : FnOk P wd K mg base CX0 3 a.f_Sendingu_initu a.d_Sendingu_initu ["self", "one", "other", "images"] (spI K a.C_Sending (S_sinit a.C_Book)) :=
  okI T.F_Sendingu_initu sc_Sendingu_initu (fun ds R h => by obtain ⟨sg, rs, mv, sg2, rs2, mv2, x, ims, rfl, hx, hi, h2, hR⟩ := h; rfl) fun cdv A outer s H E hr => by
  refine ⟨_, (pss_cons (ps_expr (pe_call (ok_check_settled T) (hr.mono (by decide)) (by rfl) T.g_check_settled T.k_check_settled T.b_check_settled .nil pass0 (pa_cons (pv 1) pa_nil)))
 (pss_cons (ps_expr (pe_call (ok_check_settled T) (hr.mono (by decide)) (by rfl) T.g_check_settled T.k_check_settled T.b_check_settled .nil pass0 (pa_cons (pv 2) pa_nil)))
 (pss_cons (ps_fld (pv 0) (pv 1) rfl)
 (pss_cons (ps_fld (pv 0) (pv 2) rfl)
 (pss_one (ps_fld (pv 0) (pe_call (ok_checked_images T) (hr.mono (by decide)) (by rfl) T.g_checked_images T.k_checked_images T.b_checked_images .nil pass0 (pa_cons (pv 1) (pa_cons (pv 2) (pa_cons (pv 3) pa_nil)))) rfl)))))), fun sA ds R h => ?_⟩
  obtain ⟨sg, rs, mv, sg2, rs2, mv2, x, ims, rfl, hx, hi, h2, hR⟩ := h
  walk_at "start"
  have cS := T.l_Sending; have xS1 := T.x_Sending_one; have xS2 := T.x_Sending_other; have xS3 := T.x_Sending_images
  walk_at "w"
  refine ⟨sg, rs, mv, rfl, ?_⟩
  walk_at "w"
  refine ⟨sg2, rs2, mv2, rfl, ?_⟩
  walk_at "w"
  refine ⟨sg, rs, mv, sg2, rs2, mv2, x, ims, rfl, hx, hi, h2, ?_⟩
  walk_at "w"
  exact ⟨_, rfl, hR⟩
def S_image_end (B C : Addr) : List Dat → (Dat → Prop) → Prop := fun ds R => ∃ (sg : W) (rs : List Rl) (mv : Dat) (sg2 : W) (rs2 : List Rl) (mv2 : Dat) (ims : List W) (t : W) (m : Nat), ds = [.obj C (sendF B sg rs mv sg2 rs2 mv2 ims), .str t] ∧
  ImOk sg sg2 ims m ∧ RsOk sg2 rs2 ∧ (∀ c ∈ t, c ∈ sg) ∧ t.length * m ≤ 200 ∧ t.length ≤ 200 ∧ R (.str (imEnd rs2 sg ims t))
theorem ok_image_end (T : Tx P K mg a) : FnOk P wd K mg base CX0 4 a.f_image_end a.d_image_end ["sending", "text"] (spF K (S_image_end a.C_Book a.C_Sending)) :=
  okF T.F_image_end sc_image_end (fun ds R h => by obtain ⟨sg, rs, mv, sg2, rs2, mv2, ims, t, m, rfl, hi, hrs, hc, hm, h2, hR⟩ := h; rfl) fun cdv A outer s H E hr => by
  refine ⟨_, (pss_cons (ps_set (i := 2) sc_image_end.nd rfl (Or.inl rfl) pe_str)
 (pss_cons (ps_for PassesOwn.never rfl (pi_str (pv 1)) (pg_name (i := 3) sc_image_end.nd rfl (Or.inl rfl))
  (pss_one (ps_set (i := 2) sc_image_end.nd rfl (Or.inl rfl) (pe_call (ok_rest_of T) (hr.mono (by decide)) (by rfl) T.g_rest_of T.k_rest_of T.b_rest_of .nil pass0 (pa_cons (pe_fld (pv 0) rfl) (pa_cons (pe_op op_addS (pv 2) (pe_ix (kIxT K rfl) (pe_fld (pv 0) rfl) (pe_m1 PySem.F.slot_str_index PySem.F.type_str_index mt_idx (pe_fld (pe_fld (pv 0) rfl) rfl) (pv 3)) (fun _ _ => rfl))) pa_nil))))))
 (pss_one (ps_ret (pv 2))))), fun ds R h => ?_⟩
  obtain ⟨sg, rs, mv, sg2, rs2, mv2, ims, t, m, rfl, hi, hrs, hc, hm, h2, hR⟩ := h
  walk_at "start"
  have cS := T.l_Sending; have xS1 := T.x_Sending_one; have xS2 := T.x_Sending_other; have xS3 := T.x_Sending_images
  have cB := T.l_Book
  have xB1 := T.x_Book_signs
  have g := hrs.good
  have e0 : (Str.ofString "").cps.toList = [] := rfl
  refine run_seq (run_asg (g_str ?_))
  rw [e0]
  dsimp only [List.set]
  walk_at "w"
  refine ⟨fun i ρ' => ∃ s3, ρ' = [.d (.obj a.C_Sending (sendF a.C_Book sg rs mv sg2 rs2 mv2 ims)), .d (.str t), .d (.str (imEnd rs2 sg ims (t.take i))), s3], ⟨_, rfl⟩, fun i x ρ' hx hw => ?_, fun ρ' hw => ?_⟩
  · obtain ⟨s3, rfl⟩ := hw
    obtain ⟨c, hct, rfl⟩ := map_get hx
    have hcs := hc c (List.mem_of_getElem? hct)
    have hat := ix_at hcs
    have hil := List.idxOf_lt_length_of_mem hcs
    have hlen := hi.len
    have him : ims[sg.idxOf c]? = some (imAt sg ims c) := by
      unfold imAt
      rw [List.getD_eq_getElem?_getD, List.getElem?_eq_getElem (by omega)]
      rfl
    have hs := imEnd_snoc rs2 sg ims (t.take i) c
    rw [← take_snoc hct] at hs
    have h4 := imEnd_len g hi.sh (sg := sg) (t.take i)
    have h5 := imAt_len (sg := sg) hi.sh c
    have h6 : (t.take i).length + 1 ≤ t.length := by
      have := get_lt hct
      rw [List.length_take]
      omega
    have h7 := Nat.mul_le_mul_right m h6
    rw [Nat.succ_mul] at h7
    generalize imEnd rs2 sg ims (t.take i) = e at h4 hs ⊢
    generalize imAt sg ims c = w at him h5 hs
    walk_at "w"
    refine ⟨c, _, rfl, hat, fun j hj => ix_lt hj, ?_⟩
    refine o2_ixT (at_map him) ?_
    walk_at "w"
    refine ⟨sg2, rs2, none, mv2, e ++ w, rfl, hrs, by rw [List.length_append]; omega, ?_⟩
    rw [← hs]
    walk_at "w"
    exact ⟨_, rfl⟩
  · obtain ⟨s3, rfl⟩ := hw
    rw [List.length_map, List.take_length]
    walk_at "w"
    exact hR
def S_scall (B C : Addr) : List Dat → (Dat → Prop) → Prop := fun ds R => ∃ (sg : W) (rs : List Rl) (mv : Dat) (sg2 : W) (rs2 : List Rl) (mv2 : Dat) (ims : List W) (t : W) (m : Nat), ds = [.obj C (sendF B sg rs mv sg2 rs2 mv2 ims), .str t] ∧
  ImOk sg sg2 ims m ∧ RsOk sg2 rs2 ∧ (∀ c ∈ t, c ∈ sg) ∧ t.length * m ≤ 200 ∧ t.length ≤ 200 ∧ R (.str (imEnd rs2 sg ims t))
theorem ok_Sendingu_callu (T : Tx P K mg a) : FnOk P wd K mg base CX0 5 a.f_Sendingu_callu a.d_Sendingu_callu ["self", "text"] (spF K (S_scall a.C_Book a.C_Sending)) :=
  okF T.F_Sendingu_callu sc_Sendingu_callu (fun ds R h => by obtain ⟨sg, rs, mv, sg2, rs2, mv2, ims, t, m, rfl, hi, hrs, hc, hm, h2, hR⟩ := h; rfl) fun cdv A outer s H E hr => by
  refine ⟨_, (pss_cons (ps_expr (pe_call (ok_check_text T) (hr.mono (by decide)) (by rfl) T.g_check_text T.k_check_text T.b_check_text .nil pass0 (pa_cons (pe_fld (pe_fld (pv 0) rfl) rfl) (pa_cons (pv 1) pa_nil))))
 (pss_one (ps_ret (pe_call (ok_image_end T) (hr.mono (by decide)) (by rfl) T.g_image_end T.k_image_end T.b_image_end .nil pass0 (pa_cons (pv 0) (pa_cons (pv 1) pa_nil)))))), fun ds R h => ?_⟩
  obtain ⟨sg, rs, mv, sg2, rs2, mv2, ims, t, m, rfl, hi, hrs, hc, hm, h2, hR⟩ := h
  walk_at "start"
  have cS := T.l_Sending; have xS1 := T.x_Sending_one; have xS2 := T.x_Sending_other; have xS3 := T.x_Sending_images
  have cB := T.l_Book
  have xB1 := T.x_Book_signs
  have hlo := hi.lo
  walk_at "w"
  refine ⟨sg, t, rfl, by omega, h2, hc, ?_⟩
  walk_at "w"
  refine ⟨sg, rs, mv, sg2, rs2, mv2, ims, t, m, rfl, hi, hrs, hc, hm, h2, ?_⟩
  walk_at "w"
  exact hR
def S_scallX (a : Ad) : List Dat → (Dat → Prop) → RX → Prop := fun ds R RE => ∃ (sg : W) (rs : List Rl) (mv : Dat) (sg2 : W) (rs2 : List Rl) (mv2 : Dat) (ims : List W) (x : Dat), ds = [.obj a.C_Sending (sendF a.C_Book sg rs mv sg2 rs2 mv2 ims), x] ∧ sg.length ≤ 8 ∧ TxA x ∧ isTx sg x 0 200 = false ∧ RE a.C_BadText [("thing", x)]
theorem okx_Sendingu_callu (T : Tx P K mg a) : FnOk P wd K mg base (L2.CX P wd) 5 a.f_Sendingu_callu a.d_Sendingu_callu ["self", "text"] (spX K (S_scallX a)) :=
  okX T.F_Sendingu_callu sc_Sendingu_callu (fun ds R RE h => by obtain ⟨sg, rs, mv, sg2, rs2, mv2, ims, x, rfl, h1, h2, h3, hX⟩ := h; rfl) fun cdv A outer s H E hr => by
  have tk : Takes (cxOf (L2.CX P wd) P wd K mg base N_Sendingu_callu "Sending.__call__" (defScope s_Sendingu_callu) a.f_Sendingu_callu cdv A outer s H E) (fun cls d _ H => E cls d H) := takes_of rfl rfl rfl rfl
  have po := passes_of (X := cxOf (L2.CX P wd) P wd K mg base N_Sendingu_callu "Sending.__call__" (defScope s_Sendingu_callu) a.f_Sendingu_callu cdv A outer s H E) rfl
  refine ⟨_, (pss_cons (ps_expr (pe_callS (okx_check_text T) (hr.mono (by decide)) (by rfl) T.g_check_text T.k_check_text T.b_check_text (passAt tk) (pa_cons (pe_fld (pe_fld (pv 0) rfl) rfl) (pa_cons (pv 1) pa_nil))))
 (pss_one (ps_ret (pe_call (ok_image_end T) (hr.mono (by decide)) (by rfl) T.g_image_end T.k_image_end T.b_image_end .nil pass0 (pa_cons (pv 0) (pa_cons (pv 1) pa_nil)))))), fun ds R RE h => ?_⟩
  obtain ⟨sg, rs, mv, sg2, rs2, mv2, ims, x, rfl, h1, h2, h3, hX⟩ := h
  walk_at "start"
  have cS := T.l_Sending; have xS1 := T.x_Sending_one; have xS2 := T.x_Sending_other; have xS3 := T.x_Sending_images
  have cB := T.l_Book
  have xB1 := T.x_Book_signs
  walk_at "w"
  exact ⟨RE, ⟨sg, x, rfl, by omega, h2, h3, hX⟩, fun C fs h => h⟩
def S_seq (B C : Addr) : List Dat → (Dat → Prop) → Prop := fun ds R => ∃ (sg : W) (rs : List Rl) (mv : Dat) (sg2 : W) (rs2 : List Rl) (mv2 : Dat) (ims : List W) (y : Dat), ds = [.obj C (sendF B sg rs mv sg2 rs2 mv2 ims), y] ∧ (∀ r ∈ rs, RLw r) ∧ (∀ r ∈ rs2, RLw r) ∧
  (((∃ ys, y = .tup ys) ∧ R (.bl false)) ∨ ∃ (sg' : W) (rs' : List Rl) (mv' : Dat) (sg2' : W) (rs2' : List Rl) (mv2' : Dat) (ims' : List W), y = .obj C (sendF B sg' rs' mv' sg2' rs2' mv2' ims') ∧ (∀ r ∈ rs', RLw r) ∧ (∀ r ∈ rs2', RLw r) ∧
    shp (imgsD ims) = true ∧ shp (imgsD ims') = true ∧ R (.bl ((decide (sg = sg') && decide (rs = rs')) && ((decide (sg2 = sg2') && decide (rs2 = rs2')) && deq (imgsD ims) (imgsD ims')))))
theorem ok_Sendingu_equ (T : Tx P K mg a) : FnOk P wd K mg base CX0 2 a.f_Sendingu_equ a.d_Sendingu_equ ["self", "other"] (spF K (S_seq a.C_Book a.C_Sending)) :=
  okF T.F_Sendingu_equ sc_Sendingu_equ (fun ds R h => by obtain ⟨sg, rs, mv, sg2, rs2, mv2, ims, y, rfl, hr1, hr2, h⟩ := h; rfl) fun cdv A outer s H E hr => by
  refine ⟨_, (pss_cons (ps_if (pt_not (pt_val (pe_callB (kIsi K rfl) (by rfl) T.n_isinstance (by decide +kernel) (pa_cons (pv 1) (pa_cons (pe_glob (v := .ref a.C_Sending) rfl T.g_Sending rfl) pa_nil)))))
  (pss_one (ps_ret pe_bl))
  pss_nil)
 (pss_one (ps_ret (pe_and (pe_cmpR (op_eqO T.p_Booku_equ (fnR_of (ok_Booku_equ T) T.b_Booku_equ) (hr.mono (by decide)) (units2 hr) pass0) (pe_fld (pv 0) rfl) (pe_fld (pv 1) rfl) (nomark _)) (pe_and (pe_cmpR (op_eqO T.p_Booku_equ (fnR_of (ok_Booku_equ T) T.b_Booku_equ) (hr.mono (by decide)) (units2 hr) pass0) (pe_fld (pv 0) rfl) (pe_fld (pv 1) rfl) (nomark _)) (pe_one (pe_cmpR (kEqD K rfl hr.units) (pe_fld (pv 0) rfl) (pe_fld (pv 1) rfl) (nomark _)))))))), fun ds R h => ?_⟩
  obtain ⟨sg, rs, mv, sg2, rs2, mv2, ims, y, rfl, hr1, hr2, h⟩ := h
  walk_at "start"
  have cS := T.l_Sending; have xS1 := T.x_Sending_one; have xS2 := T.x_Sending_other; have xS3 := T.x_Sending_images
  rcases h with ⟨⟨ys, rfl⟩, hR⟩ | ⟨sg', rs', mv', sg2', rs2', mv2', ims', rfl, hr3, hr4, hs1, hs2, hR⟩
  · walk_at "w"
    refine oc_isiN rfl T.it_Sending ?_
    walk_at "w"
    exact hR
  · walk_at "w"
    refine oc_isiO cS T.ic_Sending ?_
    walk_at "w"
    refine ⟨sg, sg', rs, rs', none, none, mv, mv', rfl, hr1, hr3, ?_⟩
    cases e1 : decide (sg = sg') && decide (rs = rs') with
    | false =>
      rw [e1] at hR
      walk_at "w"
      exact hR
    | true =>
      rw [e1] at hR
      walk_at "w"
      refine ⟨sg2, sg2', rs2, rs2', none, none, mv2, mv2', rfl, hr2, hr4, ?_⟩
      cases e2 : decide (sg2 = sg2') && decide (rs2 = rs2') with
      | false =>
        rw [e2] at hR
        walk_at "w"
        exact hR
      | true =>
        rw [e2] at hR
        walk_at "w"
        refine o2_eqD hs1 hs2 ?_
        exact ⟨_, rfl, hR⟩

end

section
variable {P : Program} {wd : World} {K : PySem.W.Frag} {mg : Str → Option Value} {base : Heap} {a : Ad}
local macro_rules | `(tactic| walk_at "g") => `(tactic| first
  | with_reducible refine BV.g_idx ?_
  | ((with_reducible refine' BV.g_isEx ?hh ?he ?_); (case hh => rfl); (case he => assumption))
  | ((with_reducible refine' BV.g_fld ?cl ?na ?_); (case na => assumption); (case cl => assumption)))
theorem stp_at {rs : List Rl} {u : W} {p : Nat} {r : Rl} (hr : r ∈ rs) (h : (u.drop p).take r.1.length = r.1) : Stp rs u (u.take p ++ r.2 ++ u.drop (p + r.1.length)) := by
  refine ⟨u.take p, u.drop (p + r.1.length), r, hr, ?_, rfl⟩
  conv => lhs; rw [← List.take_append_drop p u, ← List.take_append_drop r.1.length (u.drop p), h, List.drop_drop]
  rw [List.append_assoc]
def S_law_some : List Dat → (Dat → Prop) → Prop := fun ds R => ∃ (rs : List Rl) (t : W), ds = [rulesD rs, .str t] ∧ Good rs ∧ rs.length ≤ 64 ∧ t.length ≤ 200 ∧ ∀ u : W, Rch rs t u → R (.str u)
theorem ok__law_some (T : Tx P K mg a) : FnOk P wd K mg base CX0 2 a.f__law_some a.d__law_some ["draws", "rules", "text"] (spS K S_law_some) :=
  okS T.F__law_some sc__law_some (fun ds R h => by obtain ⟨rs, t, rfl, g, h1, h2, hR⟩ := h; rfl) fun cdv A outer s H E hr => by
  refine ⟨_, (pss_cons (ps_for PassesOwn.never rfl (pi_range1 rfl T.n_range (pa_cons pe_int pa_nil)) (pg_name (i := 3) sc__law_some.nd rfl (Or.inl rfl))
  (pss_cons (ps_set (i := 4) sc__law_some.nd rfl (Or.inl rfl) (pe_lst pa_nil))
 (pss_cons (ps_for PassesOwn.never rfl (pi_range1 rfl T.n_range (pa_cons (pe_callB (kLen K rfl) (by rfl) T.n_len (by decide +kernel) (pa_cons (pv 2) pa_nil)) pa_nil)) (pg_name (i := 5) sc__law_some.nd rfl (Or.inl rfl))
  (pss_one (ps_for PassesOwn.never rfl (pi_tup (pv 1)) (pg_tup rfl (pgs_cons (pg_name (i := 6) sc__law_some.nd rfl (Or.inl rfl)) (pgs_cons (pg_name (i := 7) sc__law_some.nd rfl (Or.inl rfl)) pgs_nil)))
  (pss_one (ps_if (pt_cmpR op_eq (pe_slice sl_str (pv 2) (po_some (pv 5)) (po_some (pe_op op_add (pv 5) (pe_callB (kLen K rfl) (by rfl) T.n_len (by decide +kernel) (pa_cons (pv 6) pa_nil))))) (pv 6) (nomark _))
  (pss_one (ps_expr (pe_bm PySem.F.plainAttrs_list PySem.F.slot_list_append PySem.F.type_list_append mt_append (pv 4) (pa_cons (pe_op op_addS (pe_op op_addS (pe_slice sl_str (pv 2) po_none (po_some (pv 5))) (pv 7)) (pe_slice sl_str (pv 2) (po_some (pe_op op_add (pv 5) (pe_callB (kLen K rfl) (by rfl) T.n_len (by decide +kernel) (pa_cons (pv 6) pa_nil)))) po_none)) pa_nil))))
  pss_nil)))))
 (pss_one (ps_if (pt_tr (pv 4))
  (pss_one (ps_set (i := 2) sc__law_some.nd rfl (Or.inl rfl) (pe_ix (kIxL K rfl) (pv 4) (pe_call (ok__law_pick T) (hr.mono (by decide)) (by rfl) T.g__law_pick T.k__law_pick T.b__law_pick .nil pass0 (pa_cons (pv 0) (pa_cons (pe_callB (kLen K rfl) (by rfl) T.n_len (by decide +kernel) (pa_cons (pv 4) pa_nil)) pa_nil))) (fun _ _ => rfl))))
  pss_nil)))))
 (pss_one (ps_ret (pv 2)))), fun sA ds R h => ?_⟩
  obtain ⟨rs, t, rfl, g, h1, h2, hR⟩ := h
  walk_at "start"
  walk_at "w"
  refine ⟨fun i ρ' => ∃ (u : W) (s4 s5 s6 s7 s8 : Slot), ρ' = [.src sA, .d (.tup (rs.map ruleD)), .d (.str u), s4, s5, s6, s7, s8] ∧ Rch rs t u, ⟨t, _, _, _, _, _, rfl, .refl _⟩, fun i x ρ' hx hw => ?_, fun ρ' hw => ?_⟩
  · obtain ⟨u, s4, s5, s6, s7, s8, rfl, hu⟩ := hw
    have hul := hu.len g
    walk_at "w"
    refine ⟨fun p ρ' => ∃ (vs : List W) (s4 s6 s7 s8 : Slot), ρ' = [.src sA, .d (.tup (rs.map ruleD)), .d (.str u), s4, .own (vs.map Dat.str), s6, s7, s8] ∧ vs.length ≤ p * 64 ∧ ∀ v ∈ vs, Stp rs u v, ⟨[], _, _, _, _, rfl, Nat.zero_le _, by simp⟩, fun p y ρ' hy hw => ?_, fun ρ' hw => ?_⟩
    · obtain ⟨vs, s4, s6, s7, s8, rfl, hvl, hvs⟩ := hw
      obtain ⟨hp, rfl⟩ := rng0_get hy
      rw [Int.toNat_natCast] at hp
      walk_at "w"
      refine ⟨fun j ρ' => ∃ (vs : List W) (s4 s7 s8 : Slot), ρ' = [.src sA, .d (.tup (rs.map ruleD)), .d (.str u), s4, .own (vs.map Dat.str), .d (.int (p : Int)), s7, s8] ∧ vs.length ≤ p * 64 + j ∧ ∀ v ∈ vs, Stp rs u v, ⟨vs, _, _, _, rfl, by omega, hvs⟩, fun j z ρ' hz hw => ?_, fun ρ' hw => ?_⟩
      · obtain ⟨vs, s4, s7, s8, rfl, hvl, hvs⟩ := hw
        obtain ⟨r, hr, rfl⟩ := map_get hz
        have hj := get_lt hr
        have gr := g r (List.mem_of_getElem? hr)
        have c1 := cut_le u none (some (p : Int))
        have c2 := cut_le u (some ((p : Int) + (r.1.length : Int))) none
        walk_at "w"
        rw [cut_mid _ (by omega) (by omega), Int.toNat_natCast, show ((p : Int) + (r.1.length : Int)).toNat - p = r.1.length by omega]
        refine BV.c_dec (fun he => ?_) fun he => ?_
        · walk_at "w"
          rw [cut_to _ (by omega), cut_from _ (by omega), Int.toNat_natCast, show ((p : Int) + (r.1.length : Int)).toNat = p + r.1.length by omega]
          have hst := stp_at (List.mem_of_getElem? hr) he
          have hvm : (vs.map Dat.str).length < 1000000 := by rw [List.length_map]; omega
          walk_at "w"
          refine ⟨vs ++ [u.take p ++ r.2 ++ u.drop (p + r.1.length)], _, _, _, by dsimp only [List.set]; rw [List.map_append]; rfl, by rw [List.length_append, List.length_singleton]; omega, fun v hv => ?_⟩
          rcases List.mem_append.mp hv with hv | hv
          · exact hvs v hv
          · rw [List.mem_singleton] at hv
            subst hv
            exact hst
        · walk_at "w"
          exact ⟨vs, _, _, _, rfl, by omega, hvs⟩
      · obtain ⟨vs, s4, s7, s8, rfl, hvl, hvs⟩ := hw
        rw [List.length_map] at hvl
        exact ⟨vs, _, _, _, _, rfl, by omega, hvs⟩
    · obtain ⟨vs, s4, s6, s7, s8, rfl, hvl, hvs⟩ := hw
      rw [rngI_len, Int.toNat_natCast] at hvl
      cases vs with
      | nil =>
        walk_at "w"
        refine ⟨fun z => (nomatch z), fun _ => ?_⟩
        walk_at "w"
        exact ⟨_, _, _, _, _, _, rfl, hu⟩
      | cons v0 vt =>
        walk_at "w"
        refine ⟨fun _ => ?_, fun z => (nomatch z)⟩
        walk_at "w"
        refine ⟨_, rfl, by rw [List.length_map, List.length_cons]; omega, by rw [List.length_map]; omega, fun e he => ?_⟩
        rw [List.length_map] at he
        have hve : (v0 :: vt)[e]? = some (v0 :: vt)[e] := List.getElem?_eq_getElem (by omega)
        have hvm := hvs _ (List.getElem_mem (l := v0 :: vt) (n := e) (by omega))
        refine ⟨_, _, rfl, at_map hve, ?_⟩
        walk_at "w"
        exact ⟨_, _, _, _, _, _, rfl, hu.trans (.one hvm)⟩
  · obtain ⟨u, s4, s5, s6, s7, s8, rfl, hu⟩ := hw
    walk_at "w"
    exact hR u hu
def S_limage : List Dat → (Dat → Prop) → Prop := fun ds R => ∃ (sg sg2 : W) (rs2 : List Rl) (ims : List W) (t : W) (m : Nat), ds = [rulesD rs2, imgsD ims, .str sg, .str t] ∧ ImOk sg sg2 ims m ∧ RsOk sg2 rs2 ∧ (∀ c ∈ t, c ∈ sg) ∧ t.length * m ≤ 200 ∧ t.length ≤ 200 ∧ R (.str (imEnd rs2 sg ims t))
theorem ok__law_image (T : Tx P K mg a) : FnOk P wd K mg base CX0 2 a.f__law_image a.d__law_image ["rules", "images", "signs", "text"] (spF K S_limage) :=
  okF T.F__law_image sc__law_image (fun ds R h => by obtain ⟨sg, sg2, rs2, ims, t, m, rfl, hi, hrs, hc, hm, h2, hR⟩ := h; rfl) fun cdv A outer s H E hr => by
  refine ⟨_, (pss_cons (ps_set (i := 4) sc__law_image.nd rfl (Or.inl rfl) pe_str)
 (pss_cons (ps_for PassesOwn.never rfl (pi_str (pv 3)) (pg_name (i := 5) sc__law_image.nd rfl (Or.inl rfl))
  (pss_one (ps_set (i := 4) sc__law_image.nd rfl (Or.inl rfl) (pe_call (ok__law_left T) (hr.mono (by decide)) (by rfl) T.g__law_left T.k__law_left T.b__law_left .nil pass0 (pa_cons (pv 0) (pa_cons (pe_op op_addS (pv 4) (pe_ix (kIxT K rfl) (pv 1) (pe_m1 PySem.F.slot_str_index PySem.F.type_str_index mt_idx (pv 2) (pv 5)) (fun _ _ => rfl))) pa_nil))))))
 (pss_one (ps_ret (pv 4))))), fun ds R h => ?_⟩
  obtain ⟨sg, sg2, rs2, ims, t, m, rfl, hi, hrs, hc, hm, h2, hR⟩ := h
  walk_at "start"
  have g := hrs.good
  have n1 := hrs.1
  have e0 : (Str.ofString "").cps.toList = [] := rfl
  refine run_seq (run_asg (g_str ?_))
  rw [e0]
  dsimp only [List.set]
  walk_at "w"
  refine ⟨fun i ρ' => ∃ s5, ρ' = [.d (rulesD rs2), .d (imgsD ims), .d (.str sg), .d (.str t), .d (.str (imEnd rs2 sg ims (t.take i))), s5], ⟨_, rfl⟩, fun i x ρ' hx hw => ?_, fun ρ' hw => ?_⟩
  · obtain ⟨s5, rfl⟩ := hw
    obtain ⟨c, hct, rfl⟩ := map_get hx
    have hcs := hc c (List.mem_of_getElem? hct)
    have hat := ix_at hcs
    have hil := List.idxOf_lt_length_of_mem hcs
    have hlen := hi.len
    have him : ims[sg.idxOf c]? = some (imAt sg ims c) := by
      unfold imAt
      rw [List.getD_eq_getElem?_getD, List.getElem?_eq_getElem (by omega)]
      rfl
    have hs := imEnd_snoc rs2 sg ims (t.take i) c
    rw [← take_snoc hct] at hs
    have h4 := imEnd_len g hi.sh (sg := sg) (t.take i)
    have h5 := imAt_len (sg := sg) hi.sh c
    have h6 : (t.take i).length + 1 ≤ t.length := by
      have := get_lt hct
      rw [List.length_take]
      omega
    have h7 := Nat.mul_le_mul_right m h6
    rw [Nat.succ_mul] at h7
    generalize imEnd rs2 sg ims (t.take i) = e at h4 hs ⊢
    generalize imAt sg ims c = w at him h5 hs
    walk_at "w"
    refine ⟨c, _, rfl, hat, fun j hj => ix_lt hj, ?_⟩
    refine o2_ixT (at_map him) ?_
    walk_at "w"
    refine ⟨rs2, _, e ++ w, rfl, .inr rfl, g, by omega, by rw [List.length_append]; omega, ?_⟩
    rw [← hs]
    walk_at "w"
    exact ⟨_, rfl⟩
  · obtain ⟨s5, rfl⟩ := hw
    rw [List.length_map, List.take_length]
    walk_at "w"
    exact hR
def S_keeps (B C KC : Addr) : List Dat → (Dat → Prop) → Prop := fun ds R => ∃ (sg : W) (rs : List Rl) (mv : Dat) (sg2 : W) (rs2 : List Rl) (mv2 : Dat) (ims : List W) (m : Nat), ds = [.obj C (sendF B sg rs mv sg2 rs2 mv2 ims)] ∧
  ImOk sg sg2 ims m ∧ m ≤ 40 ∧ RsOk sg rs ∧ RsOk sg2 rs2 ∧ R (.obj KC (keepF (lostAt rs2 sg ims rs)))
theorem ok_Sending_keeps (T : Tx P K mg a) : FnOk P wd K mg base CX0 5 a.f_Sending_keeps a.d_Sending_keeps ["self"] (spF K (S_keeps a.C_Book a.C_Sending a.C_Keeps)) :=
  okF T.F_Sending_keeps sc_Sending_keeps (fun ds R h => by obtain ⟨sg, rs, mv, sg2, rs2, mv2, ims, m, rfl, hi, hm, hrs, hrs2, hR⟩ := h; rfl) fun cdv A outer s H E hr => by
  refine ⟨_, (pss_cons (ps_for PassesOwn.never rfl (pi_range1 rfl T.n_range (pa_cons (pe_callB (kLen K rfl) (by rfl) T.n_len (by decide +kernel) (pa_cons (pe_fld (pe_fld (pv 0) rfl) rfl) pa_nil)) pa_nil)) (pg_name (i := 1) sc_Sending_keeps.nd rfl (Or.inl rfl))
  (pss_cons (ps_asg (pe_ix (kIxT K rfl) (pe_fld (pe_fld (pv 0) rfl) rfl) (pv 1) (fun _ _ => rfl)) (pg_tup rfl (pgs_cons (pg_name (i := 2) sc_Sending_keeps.nd rfl (Or.inl rfl)) (pgs_cons (pg_name (i := 3) sc_Sending_keeps.nd rfl (Or.inl rfl)) pgs_nil))))
 (pss_one (ps_if (pt_cmpR op_ne (pe_call (ok_image_end T) (hr.mono (by decide)) (by rfl) T.g_image_end T.k_image_end T.b_image_end .nil pass0 (pa_cons (pv 0) (pa_cons (pv 2) pa_nil))) (pe_call (ok_image_end T) (hr.mono (by decide)) (by rfl) T.g_image_end T.k_image_end T.b_image_end .nil pass0 (pa_cons (pv 0) (pa_cons (pv 3) pa_nil))) (nomark _))
  (pss_one (ps_ret (pe_make T.m_Keeps (ok_Keepsu_initu T) (hr.mono (by decide)) (by rfl) T.g_Keeps T.b_Keepsu_initu .nil pass0 (pa_cons (pv 1) pa_nil))))
  pss_nil))))
 (pss_one (ps_ret (pe_make T.m_Keeps (ok_Keepsu_initu T) (hr.mono (by decide)) (by rfl) T.g_Keeps T.b_Keepsu_initu .nil pass0 (pa_cons pe_non pa_nil))))), fun ds R h => ?_⟩
  obtain ⟨sg, rs, mv, sg2, rs2, mv2, ims, m, rfl, hi, hm, hrs, hrs2, hR⟩ := h
  walk_at "start"
  have cS := T.l_Sending; have xS1 := T.x_Sending_one; have xS2 := T.x_Sending_other; have xS3 := T.x_Sending_images
  have cB := T.l_Book; have xB1 := T.x_Book_signs; have xB2 := T.x_Book_rules
  have n1 := hrs.1
  walk_at "w"
  refine ⟨fun i ρ' => ∃ s1 s2 s3, ρ' = [.d (.obj a.C_Sending (sendF a.C_Book sg rs mv sg2 rs2 mv2 ims)), s1, s2, s3] ∧ ∀ q ∈ rs.take i, badR rs2 sg ims q = false, ⟨_, _, _, rfl, by simp⟩, fun i x ρ' hx hw => ?_, fun ρ' hw => ?_⟩
  · obtain ⟨s1, s2, s3, rfl, ho⟩ := hw
    obtain ⟨hk, rfl⟩ := rng0_get hx
    rw [Int.toNat_natCast, List.length_map] at hk
    have hr : rs[i]? = some rs[i] := List.getElem?_eq_getElem hk
    obtain ⟨⟨k1, k2, k3⟩, k4, k5⟩ := hrs.2.2 _ (List.getElem_mem hk)
    generalize rs[i] = r at hr k1 k2 k3 k4 k5
    have m1 : r.1.length * m ≤ 4 * 40 := Nat.mul_le_mul k2 hm
    have m2 : r.2.length * m ≤ 4 * 40 := Nat.mul_le_mul (by omega) hm
    walk_at "w"
    refine ⟨sg, rs, mv, sg2, rs2, mv2, ims, r.1, m, rfl, hi, hrs2, k4, by omega, by omega, ?_⟩
    walk_at "w"
    refine ⟨sg, rs, mv, sg2, rs2, mv2, ims, r.2, m, rfl, hi, hrs2, k5, by omega, by omega, ?_⟩
    walk_at "w"
    by_cases e : imEnd rs2 sg ims r.1 = imEnd rs2 sg ims r.2
    · refine BV.c_ndt e ?_
      walk_at "w"
      refine ⟨_, _, _, rfl, fun q hq => ?_⟩
      rw [take_snoc hr] at hq
      rcases List.mem_append.mp hq with z | z
      · exact ho q z
      · rw [List.mem_singleton.mp z]
        exact decide_eq_false fun z => z e
    · refine BV.c_ndf e ?_
      rw [lost_some ho hr (decide_eq_true e)] at hR
      walk_at "w"
      refine ⟨some i, rfl, ?_⟩
      walk_at "w"
      exact hR
  · obtain ⟨s1, s2, s3, rfl, ho⟩ := hw
    rw [rngI_len, Int.toNat_natCast, List.length_map, List.take_length] at ho
    rw [lost_none ho] at hR
    walk_at "w"
    refine ⟨none, rfl, ?_⟩
    walk_at "w"
    exact hR
/-- images that are refused, and the place that is told -/
def BadAt (sg sg2 : W) (x : Dat) (k : Int) : Prop := (((x = .non ∨ ∃ s, x = .str s) ∨ ∃ xs : List Dat, x = .tup xs ∧ xs.length ≠ sg.length ∧ xs.length ≤ 1000) ∧ k = -1) ∨
  ∃ (xs : List Dat) (j : Nat) (y : Dat), x = .tup xs ∧ xs.length = sg.length ∧ xs[j]? = some y ∧ TxA y ∧ isTx sg2 y 0 200 = false ∧ (∀ i z, i < j → xs[i]? = some z → TxA z ∧ isTx sg2 z 0 200 = true) ∧ k = (j : Int)
def S_ciX (a : Ad) : List Dat → (Dat → Prop) → RX → Prop := fun ds R RE => ∃ (sg : W) (rs : List Rl) (mv : Dat) (sg2 : W) (rs2 : List Rl) (mv2 x : Dat) (k : Int), ds = [.obj a.C_Book (bookF sg rs none mv), .obj a.C_Book (bookF sg2 rs2 none mv2), x] ∧
  sg.length ≤ 8 ∧ sg2.length ≤ 8 ∧ BadAt sg sg2 x k ∧ RE a.C_BadImage [("place", .int k)]
theorem okx_checked_images (T : Tx P K mg a) : FnOk P wd K mg base (L2.CX P wd) 3 a.f_checked_images a.d_checked_images ["one", "other", "images"] (spX K (S_ciX a)) :=
  okX T.F_checked_images sc_checked_images (fun ds R RE h => by obtain ⟨sg, rs, mv, sg2, rs2, mv2, x, k, rfl, h1, h2, hb, hX⟩ := h; rfl) fun cdv A outer s H E hr => by
  have tk : Takes (cxOf (L2.CX P wd) P wd K mg base N_checked_images "checked_images" (defScope s_checked_images) a.f_checked_images cdv A outer s H E) (fun cls d _ H => E cls d H) := takes_of rfl rfl rfl rfl
  have po := passes_of (X := cxOf (L2.CX P wd) P wd K mg base N_checked_images "checked_images" (defScope s_checked_images) a.f_checked_images cdv A outer s H E) rfl
  refine ⟨_, (pss_cons (ps_if (PW.pt (pw_or (pt_not (pt_val (pe_call (ok_is_listed T) (hr.mono (by decide)) (by rfl) T.g_is_listed T.k_is_listed T.b_is_listed .nil pass0 (pa_cons (pv 2) pa_nil)))) (pw_or1 (pt_cmpR op_ne (pe_callB (kLen K rfl) (by rfl) T.n_len (by decide +kernel) (pa_cons (pv 2) pa_nil)) (pe_callB (kLen K rfl) (by rfl) T.n_len (by decide +kernel) (pa_cons (pe_fld (pv 0) rfl) pa_nil)) (nomark _)))))
  (pss_one (ps_raise rfl tk (pmk_oex T.oe_BadImage T.oi_BadImage T.ot_WrongItemu_initu (oke_WrongItemu_initu T) (hr.mono (by decide)) T.b_WrongItemu_initu .nil pass0 (by rfl) T.g_BadImage (pa_cons (pe_un un_neg pe_int) pa_nil))))
  pss_nil)
 (pss_cons (ps_for po rfl (pi_range1 rfl T.n_range (pa_cons (pe_callB (kLen K rfl) (by rfl) T.n_len (by decide +kernel) (pa_cons (pv 2) pa_nil)) pa_nil)) (pg_name (i := 3) sc_checked_images.nd rfl (Or.inl rfl))
  (pss_one (ps_if (pt_not (pt_val (pe_call (ok_is_text T) (hr.mono (by decide)) (by rfl) T.g_is_text T.k_is_text T.b_is_text .nil pass0 (pa_cons (pe_fld (pv 1) rfl) (pa_cons (pe_ix (kIxQ K rfl) (pv 2) (pv 3) (fun _ _ => rfl)) (pa_cons pe_int (pa_cons (pe_glob (v := .int 200) rfl T.c_LONGEST_TEXT ⟨_, rfl⟩) pa_nil)))))))
  (pss_one (ps_raise rfl tk (pmk_oex T.oe_BadImage T.oi_BadImage T.ot_WrongItemu_initu (oke_WrongItemu_initu T) (hr.mono (by decide)) T.b_WrongItemu_initu .nil pass0 (by rfl) T.g_BadImage (pa_cons (pv 3) pa_nil))))
  pss_nil)))
 (pss_one (ps_ret (pe_callTy (kTupOf K rfl) (by rfl) T.n_tuple (by decide +kernel) (pa_cons (pv 2) pa_nil)))))), fun ds R RE h => ?_⟩
  obtain ⟨sg, rs, mv, sg2, rs2, mv2, x, k, rfl, h1, h2, hb, hX⟩ := h
  walk_at "start"
  have cB := T.l_Book; have xB1 := T.x_Book_signs; have xB2 := T.x_Book_rules
  rcases hb with ⟨hx, rfl⟩ | ⟨xs, j, y, rfl, hl, hy, ty, iy, hj, rfl⟩
  · rcases hx with hx | ⟨xs, rfl, hl, hl2⟩
    · walk_at "w"
      refine ⟨_, rfl, .inr ⟨hx, ?_⟩⟩
      walk_at "w"
      refine run_raise T.oe_BadImage T.sx_BadImage (fun ds fs h f hf => ?_) ?_
      · obtain ⟨y, rfl, rfl, _⟩ := h
        rw [List.mem_singleton] at hf
        subst hf
        exact T.xn_BadImage_place
      · walk_at "w"
        exact ⟨Nat.le_of_ble_eq_true rfl, [("place", .int (-1))], ⟨_, rfl, rfl, -1, rfl, by decide, by decide⟩, hX⟩
    · walk_at "w"
      refine ⟨_, rfl, .inl ⟨.inl ⟨_, rfl⟩, ?_⟩⟩
      walk_at "w"
      refine run_raise T.oe_BadImage T.sx_BadImage (fun ds fs h f hf => ?_) ?_
      · obtain ⟨y, rfl, rfl, _⟩ := h
        rw [List.mem_singleton] at hf
        subst hf
        exact T.xn_BadImage_place
      · walk_at "w"
        exact ⟨Nat.le_of_ble_eq_true rfl, [("place", .int (-1))], ⟨_, rfl, rfl, -1, rfl, by decide, by decide⟩, hX⟩
  · have hjl := (List.getElem?_eq_some_iff.mp hy).1
    walk_at "w"
    refine ⟨_, rfl, .inl ⟨.inl ⟨_, rfl⟩, ?_⟩⟩
    walk_at "w"
    refine ⟨fun i ρ' => i ≤ j ∧ ∃ s3, ρ' = [.d (.obj a.C_Book (bookF sg rs none mv)), .d (.obj a.C_Book (bookF sg2 rs2 none mv2)), .d (.tup xs), s3], ⟨Nat.zero_le _, _, rfl⟩, fun i x ρ' hx hw => ?_, fun ρ' hw => ?_⟩
    · obtain ⟨hij, s3, rfl⟩ := hw
      obtain ⟨hk, rfl⟩ := rng0_get hx
      rw [Int.toNat_natCast] at hk
      rcases Nat.lt_or_ge i j with z | z
      · have hat : xs[i]? = some xs[i] := List.getElem?_eq_getElem hk
        obtain ⟨tw, iw⟩ := hj i _ z hat
        generalize xs[i] = w at hat tw iw
        walk_at "w"
        refine ⟨sg2, w, 0, 200, rfl, by omega, tw, ?_⟩
        rw [iw]
        walk_at "w"
        exact ⟨by omega, _, rfl⟩
      · obtain rfl : i = j := by omega
        walk_at "w"
        refine ⟨sg2, y, 0, 200, rfl, by omega, ty, ?_⟩
        rw [iy]
        walk_at "w"
        refine run_raise T.oe_BadImage T.sx_BadImage (fun ds fs h f hf => ?_) ?_
        · obtain ⟨y, rfl, rfl, _⟩ := h
          rw [List.mem_singleton] at hf
          subst hf
          exact T.xn_BadImage_place
        · walk_at "w"
          exact ⟨Nat.le_of_ble_eq_true rfl, [("place", .int (i : Int))], ⟨_, rfl, rfl, (i : Int), rfl, by omega, by omega⟩, hX⟩
    · obtain ⟨hij, s3, rfl⟩ := hw
      rw [rngI_len, Int.toNat_natCast] at hij
      exact absurd hij (by omega)
def S_sinitX (a : Ad) : List Dat → (List (Str × Dat) → Prop) → RX → Prop := fun ds R RE => ∃ (sg : W) (rs : List Rl) (mv : Dat) (sg2 : W) (rs2 : List Rl) (mv2 x : Dat) (k : Int), ds = [.obj a.C_Book (bookF sg rs none mv), .obj a.C_Book (bookF sg2 rs2 none mv2), x] ∧
  sg.length ≤ 8 ∧ sg2.length ≤ 8 ∧ BadAt sg sg2 x k ∧ RE a.C_BadImage [("place", .int k)]
theorem okx_Sendingu_initu (T : Tx P K mg a) : FnOk P wd K mg base (L2.CX P wd) 4 a.f_Sendingu_initu a.d_Sendingu_initu ["self", "one", "other", "images"] (spJ K a.C_Sending (S_sinitX a)) :=
  okJ T.F_Sendingu_initu sc_Sendingu_initu (fun ds R RE h => by obtain ⟨sg, rs, mv, sg2, rs2, mv2, x, k, rfl, h1, h2, hb, hX⟩ := h; rfl) fun cdv A outer s H E hr => by
  have tk : Takes (cxOf (L2.CX P wd) P wd K mg base N_Sendingu_initu "Sending.__init__" (defScope s_Sendingu_initu) a.f_Sendingu_initu cdv A outer s H E) (fun cls d _ H => E cls d H) := takes_of rfl rfl rfl rfl
  have po := passes_of (X := cxOf (L2.CX P wd) P wd K mg base N_Sendingu_initu "Sending.__init__" (defScope s_Sendingu_initu) a.f_Sendingu_initu cdv A outer s H E) rfl
  refine ⟨_, (pss_cons (ps_expr (pe_call (ok_check_settled T) (hr.mono (by decide)) (by rfl) T.g_check_settled T.k_check_settled T.b_check_settled .nil pass0 (pa_cons (pv 1) pa_nil)))
 (pss_cons (ps_expr (pe_call (ok_check_settled T) (hr.mono (by decide)) (by rfl) T.g_check_settled T.k_check_settled T.b_check_settled .nil pass0 (pa_cons (pv 2) pa_nil)))
 (pss_cons (ps_fld (pv 0) (pv 1) rfl)
 (pss_cons (ps_fld (pv 0) (pv 2) rfl)
 (pss_one (ps_fld (pv 0) (pe_callS (okx_checked_images T) (hr.mono (by decide)) (by rfl) T.g_checked_images T.k_checked_images T.b_checked_images (passAt tk) (pa_cons (pv 1) (pa_cons (pv 2) (pa_cons (pv 3) pa_nil)))) rfl)))))), fun sA ds R RE h => ?_⟩
  obtain ⟨sg, rs, mv, sg2, rs2, mv2, x, k, rfl, h1, h2, hb, hX⟩ := h
  walk_at "start"
  have cS := T.l_Sending; have xS1 := T.x_Sending_one; have xS2 := T.x_Sending_other; have xS3 := T.x_Sending_images
  walk_at "w"
  refine ⟨sg, rs, mv, rfl, ?_⟩
  walk_at "w"
  refine ⟨sg2, rs2, mv2, rfl, ?_⟩
  walk_at "w"
  exact ⟨RE, ⟨sg, rs, mv, sg2, rs2, mv2, x, k, rfl, h1, h2, hb, hX⟩, fun C fs h => h⟩
theorem run_drop0 {K : KB} {ρ : LS} {te : TE} {N : LS → Prop} {R : Ret → LS → Prop} {B C : LS → Prop} (h : G K false ρ te fun _ => N ρ) : Run K ρ (tDrop te) N R B C := fun c D is σ H o =>
  h c σ H o _ fun v H2 d o2 l r k => is.nx ρ σ H2 o2 k
def S_lrefused (a : Ad) : List Dat → (Dat → Prop) → Prop := fun ds R => ∃ (sg : W) (rs : List Rl) (mv : Dat) (sg2 : W) (rs2 : List Rl) (mv2 x : Dat) (k : Int), ds = [.obj a.C_Book (bookF sg rs none mv), .obj a.C_Book (bookF sg2 rs2 none mv2), x] ∧
  sg.length ≤ 8 ∧ sg2.length ≤ 8 ∧ BadAt sg sg2 x k ∧ R (.int k)
theorem ok__law_refused (T : Tx P K mg a) : FnOk P wd K mg base CX0 6 a.f__law_refused a.d__law_refused ["one", "other", "images"] (spF K (S_lrefused a)) :=
  okF T.F__law_refused sc__law_refused (fun ds R h => by obtain ⟨sg, rs, mv, sg2, rs2, mv2, x, k, rfl, h1, h2, hb, hR⟩ := h; rfl) fun cdv A outer s H E hr => by
  refine ⟨_, (pss_cons (ps_tryC rfl rfl sc__law_refused.nd takes0
 (fun W pn xe tk po => (pss_one (ps_expr (pe_makeS T.m_Sending (okx_Sendingu_initu T) (hr.mono (by decide)) (by rfl) T.g_Sending T.b_Sendingu_initu (passAt tk) (pa_cons (pv 0) (pa_cons (pv 1) (pa_cons (pv 2) pa_nil)))))))
 (.named ⟨by rfl, by decide, .inl T.g_BadImage⟩ (i := 3) rfl rfl (fun ea oe ecls ed epn hz hf => (pss_one (ps_ret (pe_ifExp (pt_val (pe_callB (call_isEx hz) (by rfl) T.n_isinstance (by decide +kernel) (pa_cons (pv 3) (pa_cons (pe_glob (v := .ref a.C_WrongItem) rfl T.g_WrongItem rfl) pa_nil)))) (pe_xf T.xf_BadImage T.xn_BadImage_place hz hf (pv 3)) (pe_tup (pa_cons pe_str (pa_cons (pe_xf T.xf_BadImage T.xn_BadImage_place hz hf (pv 3)) pa_nil)))))))
 .nil))
 (pss_one (ps_ret pe_non))), fun ds R h => ?_⟩
  obtain ⟨sg, rs, mv, sg2, rs2, mv2, x, k, rfl, h1, h2, hb, hR⟩ := h
  walk_at "start"
  have hit := T.it_BadImage_WrongItem
  refine run_seq (run_try (RE := fun C' fl ρ' => C' = a.C_BadImage ∧ fl = ([(("place" : Str), Dat.int k)] : List (Str × Dat)) ∧ ρ' = [.d (.obj a.C_Book (bookF sg rs none mv)), .d (.obj a.C_Book (bookF sg2 rs2 none mv2)), .d x, .no]) (fun W => ?_) fun C' fl ρ' h => ?_)
  · refine run_drop0 ?_
    walk_at "w"
    exact ⟨fun C' fl => C' = a.C_BadImage ∧ fl = ([(("place" : Str), Dat.int k)] : List (Str × Dat)), ⟨sg, rs, mv, sg2, rs2, mv2, x, k, rfl, h1, h2, hb, rfl, rfl⟩, fun C' fl h => ⟨h.1, h.2, rfl⟩⟩
  · obtain ⟨rfl, rfl, rfl⟩ := h
    refine ⟨true, T.xm_BadImage_BadImage, fun _ ea ed => ?_, fun z => (nomatch z)⟩
    dsimp only [onS, List.set]
    walk_at "w"
    exact hR

end

section
variable {P : Program} {wd : World} {K : PySem.W.Frag} {mg : Str → Option Value} {base : Heap} {a : Ad}
local macro_rules | `(tactic| walk_at "g") => `(tactic| first
  | with_reducible refine BV.g_callSN ?_
  | with_reducible refine BV.g_cOS ?_
  | ((with_reducible refine' BV.g_fld ?cl ?na ?_); (case na => assumption); (case cl => assumption)))
local macro_rules | `(tactic| walk_at "o") => `(tactic| first
  | ((with_reducible refine BV.o2_repS ?h0 ?h1 ?hz ?_); (case h0 => decide); (case h1 => decide); (case hz => exact Nat.le_of_ble_eq_true rfl))
  | ((with_reducible refine' BV.o2_ixS ?hl ?ha ?_); (case hl => omega); (case ha => exact BV.at_nat (i := 0) (by assumption))))
theorem conf_none {rs : List Rl} (c : Conf rs) {o : Option W} (h : LeastQ rs o) : o = none := by
  cases e : o with
  | none => rfl
  | some w =>
    obtain ⟨v, hv, hu, _⟩ := h.2 w e
    obtain ⟨s1, s2⟩ := side_steps hv
    exact absurd ((c _ _ (stepAt_stp s1)).symm.trans (c _ _ (stepAt_stp s2))) hu
theorem all_snoc {α : Type} {P : α → Prop} {rs : List α} {r : α} (hn : ∀ q ∈ rs, P q) (h : P r) : ∀ q ∈ rs ++ [r], P q := fun q hq => by
  rcases List.mem_append.mp hq with hq | hq
  · exact hn q hq
  · rw [List.mem_singleton] at hq
    subst hq
    exact h
theorem nodup_snoc {α : Type} {rs : List α} {r : α} (hn : rs.Nodup) (h : r ∉ rs) : (rs ++ [r]).Nodup := by
  rw [List.nodup_append]
  exact ⟨hn, by simp, fun a ha b hb e => by rw [List.mem_singleton] at hb; subst hb; subst e; exact h ha⟩
theorem sg_chars {sg : W} (hs : SgOk sg) {w : W} (h : ∀ c ∈ w, c ∈ sg) : (w.all fun c => decide (c < 16 ^ 8)) = true := by
  have hc : ∀ c ∈ sg, c < 16 ^ 8 := fun c h => by
    obtain ⟨i, hi, rfl⟩ := List.mem_iff_getElem.mp h
    have := (hs.2.2 i hi).2.1
    exact Nat.lt_of_le_of_lt this (by decide)
  exact List.all_eq_true.mpr fun c k => decide_eq_true (hc c (h c k))
theorem rch_in {sg : W} {rs : List Rl} (h : RsOk sg rs) {u v : W} (s : Rch rs u v) (hu : ∀ c ∈ u, c ∈ sg) : ∀ c ∈ v, c ∈ sg := by
  induction s with
  | refl _ => exact hu
  | step s _ ih =>
    refine ih ?_
    obtain ⟨a, b, r, hr, rfl, rfl⟩ := s
    have gc := (h.2.2 r hr).2.2
    intro c hc
    simp only [List.mem_append] at hc hu
    rcases hc with (hc | hc) | hc
    · exact hu c (.inl (.inl hc))
    · exact gc c hc
    · exact hu c (.inr hc)
theorem imEnd_ch {sg sg2 : W} {qs : List Rl} (h : RsOk sg2 qs) {ims : List W} (hc : ∀ w ∈ ims, ∀ c ∈ w, c ∈ sg2) (t : W) : ∀ c ∈ imEnd qs sg ims t, c ∈ sg2 := by
  refine rev_ind (P := fun t => ∀ c ∈ imEnd qs sg ims t, c ∈ sg2) (fun c hc => (by cases hc)) (fun t d ih => ?_) t
  rw [imEnd_snoc]
  refine rch_in h (left_rch qs _) fun c k => ?_
  rcases List.mem_append.mp k with k | k
  · exact ih c k
  · unfold imAt at k
    rw [List.getD_eq_getElem?_getD] at k
    cases e : ims[sg.idxOf d]? with
    | none => rw [e] at k; cases k
    | some w => rw [e] at k; exact hc w (List.mem_of_getElem? e) c k
theorem no_Q : ∀ sg ∈ Signs, isTx sg (.str (Str.ofString "Q").cps.toList) 0 200 = false := by decide +kernel
theorem odd_at (c : Nat) {sg : W} (hS : sg ∈ Signs) : ∀ d, d < 5 → ∃ x, [Dat.non, .str (Str.ofString "Q").cps.toList, .int 5, .str (List.replicate (Int.toNat 201) [c]).flatten, .tup [.str [c]]][d]? = some x ∧ TxA x ∧ isTx sg x 0 200 = false := fun d hd => by
  have hl : ((List.replicate (Int.toNat 201) [c]).flatten).length = 201 := by rw [List.length_flatten]; simp
  have : d = 0 ∨ d = 1 ∨ d = 2 ∨ d = 3 ∨ d = 4 := by omega
  rcases this with rfl | rfl | rfl | rfl | rfl
  · exact ⟨_, rfl, .inl rfl, rfl⟩
  · exact ⟨_, rfl, .inr (.inr (.inr ⟨_, rfl, Nat.le_of_ble_eq_true rfl⟩)), no_Q sg hS⟩
  · exact ⟨_, rfl, .inr (.inl ⟨_, rfl⟩), rfl⟩
  · refine ⟨_, rfl, .inr (.inr (.inr ⟨_, rfl, by rw [hl]; decide⟩)), ?_⟩
    rw [isTx_str, hl]
    rfl
  · exact ⟨_, rfl, .inr (.inr (.inl ⟨_, rfl⟩)), rfl⟩
theorem im_tx {sg sg2 : W} {ims : List W} {m : Nat} (hi : ImOk sg sg2 ims m) (hm : m ≤ 200) : ∀ z ∈ ims.map Dat.str, TxA z ∧ isTx sg2 z 0 200 = true := fun z hz => by
  obtain ⟨w, hw, rfl⟩ := List.mem_map.mp hz
  have := hi.sh w hw
  exact ⟨.inr (.inr (.inr ⟨w, rfl, by omega⟩)), isTx_yes (by omega) (by omega) (hi.ch w hw)⟩
theorem spoilt_bad {sg sg2 : W} {ims : List W} (hi : ImOk sg sg2 ims 3) {e : Nat} (he : e < ims.length) {x : Dat} (tx : TxA x) (ix : isTx sg2 x 0 200 = false) : BadAt sg sg2 (.tup (((ims.map Dat.str).take e ++ [x]) ++ (ims.map Dat.str).drop (e + 1))) (e : Int) := by
  have hl := hi.len
  have h1 : ((ims.map Dat.str).take e).length = e := by rw [List.length_take, List.length_map]; omega
  refine .inr ⟨_, e, x, rfl, ?_, ?_, tx, ix, fun i z hie hz => ?_, rfl⟩
  · rw [List.length_append, List.length_append, h1, List.length_drop, List.length_map, List.length_singleton]
    omega
  · rw [List.append_assoc, List.getElem?_append_right (by omega), h1, Nat.sub_self]
    rfl
  · rw [List.append_assoc, List.getElem?_append_left (by omega)] at hz
    exact im_tx hi (by decide) z (List.mem_of_mem_take (List.mem_of_getElem? hz))
theorem four_at {sg sg2 : W} {ims : List W} (hi : ImOk sg sg2 ims 3) (h1 : 1 ≤ sg.length) : ∀ d, d < 4 → ∃ x, [Dat.tup (ims.map Dat.str ++ [.str (Str.ofString "").cps.toList]), .non, .str (Str.ofString "ab").cps.toList, .tup (cut (ims.map Dat.str) (some 1) none)][d]? = some x ∧ BadAt sg sg2 x (-1) := fun d hd => by
  have hl := hi.len
  have hlo := hi.lo
  have : d = 0 ∨ d = 1 ∨ d = 2 ∨ d = 3 := by omega
  rcases this with rfl | rfl | rfl | rfl
  · exact ⟨_, rfl, .inl ⟨.inr ⟨_, rfl, by rw [List.length_append, List.length_map, List.length_singleton]; omega, by rw [List.length_append, List.length_map, List.length_singleton]; omega⟩, rfl⟩⟩
  · exact ⟨_, rfl, .inl ⟨.inl (.inl rfl), rfl⟩⟩
  · exact ⟨_, rfl, .inl ⟨.inl (.inr ⟨_, rfl⟩), rfl⟩⟩
  · have e1 : (cut (ims.map Dat.str) (some 1) none).length = ims.length - 1 := by
      rw [cut_from _ (by decide), List.length_drop, List.length_map]
      rfl
    exact ⟨_, rfl, .inl ⟨.inr ⟨_, rfl, by rw [e1]; omega, by rw [e1]; omega⟩, rfl⟩⟩
theorem rep_imgs (w : W) : ∀ n, (List.replicate n [Dat.str w]).flatten = (List.replicate n w).map Dat.str
  | 0 => rfl
  | n + 1 => by rw [List.replicate_succ, List.replicate_succ, List.flatten_cons, List.map_cons, rep_imgs w n]; rfl
theorem imEnd_rep (qs : List Rl) {sg lng : W} {c : Nat} (hc : c ∈ sg) : imEnd qs sg (List.replicate sg.length lng) [c] = left qs lng := by
  have h := imEnd_snoc qs sg (List.replicate sg.length lng) [] c
  rw [List.nil_append] at h
  rw [h]
  have e : imAt sg (List.replicate sg.length lng) c = lng := by
    unfold imAt
    rw [List.getD_eq_getElem?_getD, List.getElem?_replicate, if_pos (List.idxOf_lt_length_of_mem hc)]
    rfl
  rw [e]
  rfl
theorem eqv_imgs : ∀ xs ys : List W, PyData.eqvAll (toPs (xs.map Dat.str)) (toPs (ys.map Dat.str)) = decide (xs = ys)
  | [], [] => rfl
  | [], _ :: _ => rfl
  | _ :: _, [] => rfl
  | x :: xs, y :: ys => by
    show (PyData.eqv (toP (.str x)) (toP (.str y)) && PyData.eqvAll (toPs (xs.map Dat.str)) (toPs (ys.map Dat.str))) = _
    rw [eqv_imgs xs ys]
    have : PyData.eqv (toP (.str x)) (toP (.str y)) = decide (x = y) := by
      show (S x == S y) = _
      exact S_beq x y
    rw [this, Bool.eq_iff_iff]
    simp [Bool.and_eq_true]
theorem deq_imgs (xs ys : List W) : deq (imgsD xs) (imgsD ys) = decide (xs = ys) := by
  show PyData.eqv (.tuple _) (.tuple _) = _
  simp only [PyData.eqv]
  exact eqv_imgs xs ys
theorem shp_imgs {xs : List W} (h : ∀ w ∈ xs, Lw w) : shp (imgsD xs) = true := by
  have key : ∀ ws : List W, (∀ w ∈ ws, Lw w) → plnL (ws.map Dat.str) = true ∧ PyData.canLayAll0 (toPs (ws.map Dat.str)) = true ∧ PyData.depthAll (toPs (ws.map Dat.str)) ≤ 0 := fun ws => by
    induction ws with
    | nil => exact fun _ => ⟨rfl, rfl, Nat.le_refl _⟩
    | cons w ws ih =>
      intro h
      obtain ⟨h1, h2, h3⟩ := ih fun q hq => h q (List.mem_cons_of_mem _ hq)
      refine ⟨h1, ?_, ?_⟩
      · show PyData.canLayAll0 (toP (.str w) :: toPs (ws.map Dat.str)) = true
        simp only [PyData.canLayAll0, h2, toP, PyData.canLay0, strOk_S (h w List.mem_cons_self), Bool.and_true]
      · show PyData.depthAll (toP (.str w) :: toPs (ws.map Dat.str)) ≤ 0
        simp only [PyData.depthAll, toP, PyData.depth]
        omega
  obtain ⟨h1, h2, h3⟩ := key xs h
  unfold shp SeqAt.shaped
  rw [Bool.and_eq_true, Bool.and_eq_true]
  refine ⟨h1, ?_, decide_eq_true ?_⟩
  · show PyData.canLay0 (.tuple _) = true
    simp only [PyData.canLay0]
    exact h2
  · show PyData.depth (.tuple _) ≤ 64
    simp only [PyData.depth]
    omega
theorem cut_m1 {α : Type} (xs : List α) (x : α) : cut (xs ++ [x]) none (some (-1)) = xs := by
  have e : HT.sIx (xs ++ [x]).length (xs ++ [x]).length (some (-1)) = xs.length := by
    show (if (-1 : Int) < 0 then ((-1 : Int) + ((xs ++ [x]).length : Int)).toNat else min (-1 : Int).toNat (xs ++ [x]).length) = _
    rw [if_pos (by decide), List.length_append, List.length_singleton]
    omega
  unfold cut
  rw [e]
  show (List.drop 0 (xs ++ [x])).take (xs.length - 0) = xs
  simp
theorem wide_z : ∀ sg ∈ Signs, [sg.getD (sg.length - 1) 0] < (Str.ofString "z").cps.toList → SgOk (sg ++ (Str.ofString "z").cps.toList) := by decide +kernel
theorem wide_a : ∀ sg ∈ Signs, ¬ [sg.getD (sg.length - 1) 0] < (Str.ofString "z").cps.toList → SgOk ((Str.ofString "a").cps.toList ++ sg) := by decide +kernel
theorem wide_len : (Str.ofString "z").cps.toList.length = 1 ∧ (Str.ofString "a").cps.toList.length = 1 := by decide +kernel
theorem last_at : ∀ sg ∈ Signs, atI sg (-1) = some (sg.getD (sg.length - 1) 0) := by decide +kernel
theorem bare_ok : ∀ sg ∈ Signs, SgOk ((Str.ofString "defghijk").cps.toList.take sg.length) ∧ sg ≠ (Str.ofString "defghijk").cps.toList.take sg.length ∧ ((Str.ofString "defghijk").cps.toList.take sg.length).length = sg.length := by decide +kernel
theorem eight_len : (Str.ofString "defghijk").cps.toList.length = 8 := by decide +kernel
theorem nil_least {o : Option W} (ho : LeastQ [] o) : o = none := by
  cases e : o with
  | none => rfl
  | some w =>
    obtain ⟨v, hv, _⟩ := ho.2 w e
    rw [show ovs [] = [] from rfl] at hv
    cases hv
theorem rs_wide {sg wd : W} {qs : List Rl} (h : RsOk sg qs) (hw : ∀ c ∈ sg, c ∈ wd) : RsOk wd qs := ⟨h.1, h.2.1, fun r hr => ⟨(h.2.2 r hr).1, fun c hc => hw c ((h.2.2 r hr).2.1 c hc), fun c hc => hw c ((h.2.2 r hr).2.2 c hc)⟩⟩
theorem shw_imgs {sg sg2 : W} (hs : SgOk sg2) {ims : List W} (hi : ImOk sg sg2 ims 3) : Shw (imgsD ims) := by
  have hc : ∀ c ∈ sg2, c < 16 ^ 8 := fun c h => by
    obtain ⟨i, hi, rfl⟩ := List.mem_iff_getElem.mp h
    have := (hs.2.2 i hi).2.1
    exact Nat.lt_of_le_of_lt this (by decide)
  have key : ∀ ws : List W, (∀ w ∈ ws, w.length ≤ 3 ∧ ∀ c ∈ w, c ∈ sg2) → niceL (ws.map Dat.str) = true ∧ PyData.depthAll (toPs (ws.map Dat.str)) ≤ 0 ∧ PyData.weightAll (toPs (ws.map Dat.str)) ≤ 4 * ws.length := fun ws => by
    induction ws with
    | nil => exact fun _ => ⟨rfl, Nat.le_refl _, Nat.le_refl _⟩
    | cons w ws ih =>
      intro h
      obtain ⟨h1, h2, h3⟩ := ih fun q hq => h q (List.mem_cons_of_mem _ hq)
      obtain ⟨k1, k2⟩ := h w List.mem_cons_self
      refine ⟨?_, ?_, ?_⟩
      · simp only [List.map_cons, niceL, nice, h1, Bool.and_true]
        exact List.all_eq_true.mpr fun c k => decide_eq_true (hc c (k2 c k))
      · simp only [List.map_cons, toPs, toP, PyData.depthAll, PyData.depth]
        omega
      · simp only [List.map_cons, toPs, toP, PyData.weightAll, PyData.weight]
        rw [List.length_cons]
        show w.length + 1 + _ ≤ _
        omega
  obtain ⟨h1, h2, h3⟩ := key ims fun w hw => ⟨hi.sh w hw, hi.ch w hw⟩
  have h4 := hi.len
  have h5 := hi.lo
  refine shw_of ?_ ?_ ?_
  · simp only [imgsD, nice]
    exact h1
  · simp only [imgsD, toP, PyData.depth]
    omega
  · simp only [imgsD, toP, PyData.weight]
    omega
def S_law : List Dat → (Dat → Prop) → Prop := fun ds R => ∃ ns : List Int, ds = [.scr ns] ∧ ns.length ≤ 63 ∧ (∀ z ∈ ns, Builtin.Int.intBits z ≤ 1048576) ∧ R = fun d => d = .bl true
theorem ok_law (T : Tx P K mg a) : FnG P wd K mg base CX0 7 a.f_law a.d_law ["script"] (spF K S_law) :=
  okG T.F_law sc_law (fun ds R h => by obtain ⟨ns, rfl, hns, hb, rfl⟩ := h; rfl) fun cdv A outer s H E hG hr => by
  refine ⟨_, (pss_cons (ps_set (i := 1) sc_law.nd rfl (Or.inl rfl) (pe_call (ok__law_source T) (hr.mono (by decide)) (by rfl) T.g__law_source T.k__law_source T.b__law_source .nil pass0 (pa_cons (pv 0) (pa_cons pe_int pa_nil))))
 (pss_cons (ps_set (i := 2) sc_law.nd rfl (Or.inr rfl) (pe_call (ok__law_signs T) (hr.mono (by decide)) (by rfl) T.g__law_signs T.k__law_signs T.b__law_signs .nil pass0 (pa_cons (pv 1) pa_nil)))
 (pss_cons (ps_set (i := 3) sc_law.nd rfl (Or.inl rfl) (pe_call (ok__law_book T) (hr.mono (by decide)) (by rfl) T.g__law_book T.k__law_book T.b__law_book .nil pass0 (pa_cons (pv 1) (pa_cons (pv 2) (pa_cons pe_int pa_nil)))))
 (pss_cons (ps_set (i := 4) sc_law.nd rfl (Or.inr rfl) (pe_call (ok__law_source T) (hr.mono (by decide)) (by rfl) T.g__law_source T.k__law_source T.b__law_source .nil pass0 (pa_cons (pv 0) (pa_cons pe_int pa_nil))))
 (pss_cons (ps_set (i := 5) sc_law.nd rfl (Or.inr rfl) (pe_call (ok__law_signs T) (hr.mono (by decide)) (by rfl) T.g__law_signs T.k__law_signs T.b__law_signs .nil pass0 (pa_cons (pv 4) pa_nil)))
 (pss_cons (ps_set (i := 6) sc_law.nd rfl (Or.inr rfl) (pe_call (ok__law_book T) (hr.mono (by decide)) (by rfl) T.g__law_book T.k__law_book T.b__law_book .nil pass0 (pa_cons (pv 4) (pa_cons (pv 5) (pa_cons pe_int pa_nil)))))
 (pss_cons (ps_set (i := 7) sc_law.nd rfl (Or.inr rfl) (pe_callTy (kTupOf K rfl) (by rfl) T.n_tuple (by decide +kernel) (pa_cons (pe_lc (own := [("sign", 28)]) rfl sc_law.nd (pi_str (pv 2)) (blkOk_by (own := [("sign", 28)]) (N := N_law) (sc := defScope s_law) (by decide +kernel)) (fun _ _ _ _ _ => (pg_name (i := 28) sc_law.nd rfl (Or.inl rfl))) (fun _ _ _ _ _ => pts_nil) (fun _ _ _ _ _ => (pe_call (ok__law_text T) (hr.mono (by decide)) (by rfl) T.g__law_text T.k__law_text T.b__law_text .nil pass0 (pa_cons (pv 4) (pa_cons (pv 5) (pa_cons pe_int pa_nil)))))) pa_nil)))
 (pss_cons (ps_set (i := 8) sc_law.nd rfl (Or.inl rfl) (pe_call (ok__law_pick T) (hr.mono (by decide)) (by rfl) T.g__law_pick T.k__law_pick T.b__law_pick .nil pass0 (pa_cons (pv 4) (pa_cons pe_int pa_nil))))
 (pss_cons (ps_if (pt_cmpR op_eq (pv 8) pe_int (nomark _))
  (pss_cons (ps_asg (pe_tup (pa_cons (pv 2) (pa_cons (pv 3) pa_nil))) (pg_tup rfl (pgs_cons (pg_name (i := 5) sc_law.nd rfl (Or.inr rfl)) (pgs_cons (pg_name (i := 6) sc_law.nd rfl (Or.inr rfl)) pgs_nil))))
 (pss_cons (ps_set (i := 7) sc_law.nd rfl (Or.inr rfl) (pe_callTy (kTupOf K rfl) (by rfl) T.n_tuple (by decide +kernel) (pa_cons (pe_lc (own := [("sign", 28)]) rfl sc_law.nd (pi_str (pv 2)) (blkOk_by (own := [("sign", 28)]) (N := N_law) (sc := defScope s_law) (by decide +kernel)) (fun _ _ _ _ _ => (pg_name (i := 28) sc_law.nd rfl (Or.inl rfl))) (fun _ _ _ _ _ => pts_nil) (fun _ _ _ _ _ => (pv 28))) pa_nil)))
 (pss_one (ps_if (PW.pt (pw_and (pt_cmpR op_eq (pe_call (ok__law_pick T) (hr.mono (by decide)) (by rfl) T.g__law_pick T.k__law_pick T.b__law_pick .nil pass0 (pa_cons (pv 4) (pa_cons pe_int pa_nil))) pe_int (nomark _)) (pw_and1 (pt_cmpR op_isN_ (pe_call (ok__law_quarrel T) (hr.mono (by decide)) (by rfl) T.g__law_quarrel T.k__law_quarrel T.b__law_quarrel .nil pass0 (pa_cons (pe_op (kCatA K rfl) (pv 3) (pe_tup (pa_cons (pe_tup (pa_cons (pe_op op_repS (pe_ix ix_str (pv 2) pe_int (fun _ _ => rfl)) pe_int) (pa_cons (pe_ix ix_str (pv 2) pe_int (fun _ _ => rfl)) pa_nil))) pa_nil))) pa_nil)) pe_non (nomark _)))))
  (pss_one (ps_if (pt_cmpR (kNotInDT K rfl (units65 hr)) (pe_tup (pa_cons (pe_op op_repS (pe_ix ix_str (pv 2) pe_int (fun _ _ => rfl)) pe_int) (pa_cons (pe_ix ix_str (pv 2) pe_int (fun _ _ => rfl)) pa_nil))) (pv 3) (by rfl))
  (pss_one (ps_set (i := 6) sc_law.nd rfl (Or.inr rfl) (pe_op (kCatA K rfl) (pv 3) (pe_tup (pa_cons (pe_tup (pa_cons (pe_op op_repS (pe_ix ix_str (pv 2) pe_int (fun _ _ => rfl)) pe_int) (pa_cons (pe_ix ix_str (pv 2) pe_int (fun _ _ => rfl)) pa_nil))) pa_nil)))))
  pss_nil))
  pss_nil))))
  (pss_one (ps_if (pt_cmpR op_eq (pv 8) pe_int (nomark _))
  (pss_cons (ps_set (i := 9) sc_law.nd rfl (Or.inr rfl) (pe_call (ok__law_text T) (hr.mono (by decide)) (by rfl) T.g__law_text T.k__law_text T.b__law_text .nil pass0 (pa_cons (pv 4) (pa_cons (pv 5) (pa_cons pe_int pa_nil)))))
 (pss_one (ps_set (i := 7) sc_law.nd rfl (Or.inr rfl) (pe_callTy (kTupOf K rfl) (by rfl) T.n_tuple (by decide +kernel) (pa_cons (pe_lc (own := [("sign", 28)]) rfl sc_law.nd (pi_str (pv 2)) (blkOk_by (own := [("sign", 28)]) (N := N_law) (sc := defScope s_law) (by decide +kernel)) (fun _ _ _ _ _ => (pg_name (i := 28) sc_law.nd rfl (Or.inl rfl))) (fun _ _ _ _ _ => pts_nil) (fun _ _ _ _ _ => (pv 9))) pa_nil)))))
  pss_nil)))
 (pss_cons (ps_par (i := 10) (j := 11) rfl sc_law.nd rfl rfl (by decide) rfl rfl (pa_cons (pe_make T.m_Book (ok_Booku_initu T) (hr.mono (by decide)) (by rfl) T.g_Book T.b_Booku_initu .nil pass0 (pa_cons (pv 2) (pa_cons (pv 3) pa_nil))) (pa_cons (pe_make T.m_Book (ok_Booku_initu T) (hr.mono (by decide)) (by rfl) T.g_Book T.b_Booku_initu .nil pass0 (pa_cons (pv 5) (pa_cons (pv 6) pa_nil))) pa_nil)) (by rfl))
 (pss_cons (ps_set (i := 12) sc_law.nd rfl (Or.inl rfl) (pe_make T.m_Sending (ok_Sendingu_initu T) (hr.mono (by decide)) (by rfl) T.g_Sending T.b_Sendingu_initu .nil pass0 (pa_cons (pv 10) (pa_cons (pv 11) (pa_cons (pe_callTy (kListOf K rfl) (by rfl) T.n_list (by decide +kernel) (pa_cons (pv 7) pa_nil)) pa_nil)))))
 (pss_cons (ps_if (PW.pt (pw_or (pt_not (pt_cmpR (op_eqO T.p_Booku_equ (fnR_of (ok_Booku_equ T) T.b_Booku_equ) (hr.mono (by decide)) (units2 hr) pass0) (pe_fld (pv 12) rfl) (pv 10) (nomark _))) (pw_or (pt_not (pt_cmpR (op_eqO T.p_Booku_equ (fnR_of (ok_Booku_equ T) T.b_Booku_equ) (hr.mono (by decide)) (units2 hr) pass0) (pe_fld (pv 12) rfl) (pv 11) (nomark _))) (pw_or1 (pt_cmpR op_ne (pe_callB (kReprD K rfl hG (units65 hr)) (by rfl) T.n_repr (by decide +kernel) (pa_cons (pe_fld (pv 12) rfl) pa_nil)) (pe_callB (kReprD K rfl hG (units65 hr)) (by rfl) T.n_repr (by decide +kernel) (pa_cons (pv 7) pa_nil)) (nomark _))))))
  (pss_one (ps_ret pe_bl))
  pss_nil)
 (pss_cons (ps_set (i := 13) sc_law.nd rfl (Or.inl rfl) pe_non)
 (pss_cons (ps_for PassesOwn.never rfl (pi_range1 rfl T.n_range (pa_cons (pe_callB (kLen K rfl) (by rfl) T.n_len (by decide +kernel) (pa_cons (pv 3) pa_nil)) pa_nil)) (pg_name (i := 14) sc_law.nd rfl (Or.inl rfl))
  (pss_cons (ps_setLc (i := 15) (own := [("side", 29)]) rfl sc_law.nd rfl rfl (sw_true rfl rfl rfl (by decide +kernel)) (pi_tup (pe_ix (kIxT K rfl) (pv 3) (pv 14) (fun _ _ => rfl))) (blkOk_by (own := [("side", 29)]) (N := N_law) (sc := defScope s_law) (by decide +kernel)) (fun _ _ _ _ _ => (pg_name (i := 29) sc_law.nd rfl (Or.inl rfl))) (fun _ _ _ _ _ => pts_nil) (fun _ _ _ _ _ => (pe_call (ok__law_image T) (hr.mono (by decide)) (by rfl) T.g__law_image T.k__law_image T.b__law_image .nil pass0 (pa_cons (pv 6) (pa_cons (pv 7) (pa_cons (pv 2) (pa_cons (pv 29) pa_nil)))))))
 (pss_one (ps_if (PW.pt (pw_and (pt_cmpR op_isN_ (pv 13) pe_non (nomark _)) (pw_and1 (pt_cmpR op_ne (pe_ix (kIxL K rfl) (pv 15) pe_int (fun _ _ => rfl)) (pe_ix (kIxL K rfl) (pv 15) pe_int (fun _ _ => rfl)) (nomark _)))))
  (pss_one (ps_set (i := 13) sc_law.nd rfl (Or.inl rfl) (pv 14)))
  pss_nil))))
 (pss_cons (ps_set (i := 16) sc_law.nd rfl (Or.inl rfl) (pe_mthS0 (pv 12) T.l_Sending T.h_Sending_keeps (fnR_of (ok_Sending_keeps T) T.b_Sending_keeps) (hr.mono (by decide)) (passS0 (E := fun _ => E0))))
 (pss_cons (ps_if (PW.pt (pw_or (pt_cmpR op_ne (pe_callB call_repr_ (by rfl) T.n_repr (by decide +kernel) (pa_cons (pe_fld (pv 16) rfl) pa_nil)) (pe_callB call_repr_ (by rfl) T.n_repr (by decide +kernel) (pa_cons (pv 13) pa_nil)) (nomark _)) (pw_or (pt_cmpR op_ne (pe_callB call_repr_ (by rfl) T.n_repr (by decide +kernel) (pa_cons (pe_fld (pv 16) rfl) pa_nil)) (pe_callB call_repr_ (by rfl) T.n_repr (by decide +kernel) (pa_cons (pe_cmpR op_isN_ (pv 13) pe_non (nomark _)) pa_nil)) (nomark _)) (pw_or1 (pt_cmpR op_ne (pe_callTy (call_boolO T.p_Keepsu_boolu (fnR_of (ok_Keepsu_boolu T) T.b_Keepsu_boolu) (hr.mono (by decide)) pass0) (by rfl) T.n_bool (by decide +kernel) (pa_cons (pv 16) pa_nil)) (pe_cmpR op_isN_ (pv 13) pe_non (nomark _)) (nomark _))))))
  (pss_one (ps_ret pe_bl))
  pss_nil)
 (pss_cons (ps_for PassesOwn.never rfl (pi_range1 rfl T.n_range (pa_cons pe_int pa_nil)) (pg_name (i := 17) sc_law.nd rfl (Or.inl rfl))
  (pss_cons (ps_set (i := 18) sc_law.nd rfl (Or.inl rfl) (pe_call (ok__law_text T) (hr.mono (by decide)) (by rfl) T.g__law_text T.k__law_text T.b__law_text .nil pass0 (pa_cons (pe_call (ok__law_source T) (hr.mono (by decide)) (by rfl) T.g__law_source T.k__law_source T.b__law_source .nil pass0 (pa_cons (pv 0) (pa_cons (pe_op op_add (pv 17) pe_int) pa_nil))) (pa_cons (pv 2) (pa_cons pe_int pa_nil)))))
 (pss_cons (ps_set (i := 19) sc_law.nd rfl (Or.inl rfl) (pe_call (ok__law_image T) (hr.mono (by decide)) (by rfl) T.g__law_image T.k__law_image T.b__law_image .nil pass0 (pa_cons (pv 6) (pa_cons (pv 7) (pa_cons (pv 2) (pa_cons (pv 18) pa_nil))))))
 (pss_cons (ps_if (pt_cmpR op_ne (pe_callB call_repr_ (by rfl) T.n_repr (by decide +kernel) (pa_cons (pe_cO (pv 12) T.o_Sending (fnR_of (ok_Sendingu_callu T) T.b_Sendingu_callu) (hr.mono (by decide)) pass0 (pa_cons (pv 18) pa_nil)) pa_nil)) (pe_callB call_repr_ (by rfl) T.n_repr (by decide +kernel) (pa_cons (pv 19) pa_nil)) (nomark _))
  (pss_one (ps_ret pe_bl))
  pss_nil)
 (pss_one (ps_if (PW.pt (pw_and (pt_cmpR op_isN_ (pv 13) pe_non (nomark _)) (pw_and1 (pt_cmpR op_ne (pe_cO (pv 12) T.o_Sending (fnR_of (ok_Sendingu_callu T) T.b_Sendingu_callu) (hr.mono (by decide)) pass0 (pa_cons (pe_call (ok__law_some T) (hr.mono (by decide)) (by rfl) T.g__law_some T.k__law_some T.b__law_some .nil pass0 (pa_cons (pv 4) (pa_cons (pv 3) (pa_cons (pv 18) pa_nil)))) pa_nil)) (pv 19) (nomark _)))))
  (pss_one (ps_ret pe_bl))
  pss_nil))))))
 (pss_cons (ps_set (i := 20) sc_law.nd rfl (Or.inl rfl) (pe_call (ok__law_pick T) (hr.mono (by decide)) (by rfl) T.g__law_pick T.k__law_pick T.b__law_pick .nil pass0 (pa_cons (pv 4) (pa_cons (pe_callB (kLen K rfl) (by rfl) T.n_len (by decide +kernel) (pa_cons (pv 7) pa_nil)) pa_nil))))
 (pss_cons (ps_set (i := 21) sc_law.nd rfl (Or.inl rfl) (pe_ix (kIxL K rfl) (pe_lst (pa_cons pe_non (pa_cons pe_str (pa_cons pe_int (pa_cons (pe_op op_repS (pe_ix ix_str (pv 5) pe_int (fun _ _ => rfl)) pe_int) (pa_cons (pe_tup (pa_cons (pe_ix ix_str (pv 5) pe_int (fun _ _ => rfl)) pa_nil)) pa_nil)))))) (pe_call (ok__law_pick T) (hr.mono (by decide)) (by rfl) T.g__law_pick T.k__law_pick T.b__law_pick .nil pass0 (pa_cons (pv 4) (pa_cons pe_int pa_nil))) (fun _ _ => rfl)))
 (pss_cons (ps_if (pt_cmpR op_ne (pe_call (ok__law_refused T) (hr.mono (by decide)) (by rfl) T.g__law_refused T.k__law_refused T.b__law_refused .nil pass0 (pa_cons (pv 10) (pa_cons (pv 11) (pa_cons (pe_op (kCatA K rfl) (pe_op (kCatA K rfl) (pe_slice (kSlA K rfl) (pv 7) po_none (po_some (pv 20))) (pe_tup (pa_cons (pv 21) pa_nil))) (pe_slice (kSlA K rfl) (pv 7) (po_some (pe_op op_add (pv 20) pe_int)) po_none)) pa_nil)))) (pv 20) (nomark _))
  (pss_one (ps_ret pe_bl))
  pss_nil)
 (pss_cons (ps_if (pt_cmpR op_ne (pe_call (ok__law_refused T) (hr.mono (by decide)) (by rfl) T.g__law_refused T.k__law_refused T.b__law_refused .nil pass0 (pa_cons (pv 10) (pa_cons (pv 11) (pa_cons (pe_ix (kIxL K rfl) (pe_lst (pa_cons (pe_op (kCatA K rfl) (pv 7) (pe_tup (pa_cons pe_str pa_nil))) (pa_cons pe_non (pa_cons pe_str (pa_cons (pe_slice (kSlA K rfl) (pv 7) (po_some pe_int) po_none) pa_nil))))) (pe_call (ok__law_pick T) (hr.mono (by decide)) (by rfl) T.g__law_pick T.k__law_pick T.b__law_pick .nil pass0 (pa_cons (pv 4) (pa_cons pe_int pa_nil))) (fun _ _ => rfl)) pa_nil)))) (pe_un un_neg pe_int) (nomark _))
  (pss_one (ps_ret pe_bl))
  pss_nil)
 (pss_cons (ps_set (i := 22) sc_law.nd rfl (Or.inl rfl) (pe_op op_repS (pe_ix ix_str (pv 5) pe_int (fun _ _ => rfl)) pe_int))
 (pss_cons (ps_if (pt_cmpR op_ne (pe_cO (pe_make T.m_Sending (ok_Sendingu_initu T) (hr.mono (by decide)) (by rfl) T.g_Sending T.b_Sendingu_initu .nil pass0 (pa_cons (pv 10) (pa_cons (pv 11) (pa_cons (pe_op (kRepU K rfl) (pe_tup (pa_cons (pv 22) pa_nil)) (pe_callB (kLen K rfl) (by rfl) T.n_len (by decide +kernel) (pa_cons (pv 2) pa_nil))) pa_nil)))) T.o_Sending (fnR_of (ok_Sendingu_callu T) T.b_Sendingu_callu) (hr.mono (by decide)) pass0 (pa_cons (pe_ix ix_str (pv 2) pe_int (fun _ _ => rfl)) pa_nil)) (pe_call (ok__law_left T) (hr.mono (by decide)) (by rfl) T.g__law_left T.k__law_left T.b__law_left .nil pass0 (pa_cons (pv 6) (pa_cons (pv 22) pa_nil))) (nomark _))
  (pss_one (ps_ret pe_bl))
  pss_nil)
 (pss_cons (ps_set (i := 23) sc_law.nd rfl (Or.inl rfl) (pe_make T.m_Sending (ok_Sendingu_initu T) (hr.mono (by decide)) (by rfl) T.g_Sending T.b_Sendingu_initu .nil pass0 (pa_cons (pe_make T.m_Book (ok_Booku_initu T) (hr.mono (by decide)) (by rfl) T.g_Book T.b_Booku_initu .nil pass0 (pa_cons (pv 2) (pa_cons (pv 3) pa_nil))) (pa_cons (pv 11) (pa_cons (pv 7) pa_nil)))))
 (pss_cons (ps_if (PW.pt (pw_or (pt_not (pt_cmpR (op_eqO T.p_Sendingu_equ (fnR_of (ok_Sendingu_equ T) T.b_Sendingu_equ) (hr.mono (by decide)) (units2 hr) pass0) (pv 12) (pv 23) (nomark _))) (pw_or (pt_cmpRS (op_eqT T.p_Sendingu_equ T.nf_Sending (fnR_of (ok_Sendingu_equ T) T.b_Sendingu_equ) (hr.mono (by decide)) (units2 hr) (passS0 (E := fun _ => E0))) (pv 12) (pv 7) (nomark _)) (pw_or1 (pt_cmpR (op_eqO T.p_Sendingu_equ (fnR_of (ok_Sendingu_equ T) T.b_Sendingu_equ) (hr.mono (by decide)) (units2 hr) pass0) (pv 12) (pe_make T.m_Sending (ok_Sendingu_initu T) (hr.mono (by decide)) (by rfl) T.g_Sending T.b_Sendingu_initu .nil pass0 (pa_cons (pv 10) (pa_cons (pv 11) (pa_cons (pe_op (kCatA K rfl) (pe_slice (kSlA K rfl) (pv 7) po_none (po_some (pe_un un_neg pe_int))) (pe_tup (pa_cons (pe_op op_addS (pe_ix (kIxT K rfl) (pv 7) (pe_un un_neg pe_int) (fun _ _ => rfl)) (pe_ix ix_str (pv 5) pe_int (fun _ _ => rfl))) pa_nil))) pa_nil)))) (nomark _))))))
  (pss_one (ps_ret pe_bl))
  pss_nil)
 (pss_cons (ps_set (i := 24) sc_law.nd rfl (Or.inl rfl) (pe_ifExp (pt_cmpR op_ltS (pe_ix ix_str (pv 5) (pe_un un_neg pe_int) (fun _ _ => rfl)) pe_str (nomark _)) (pe_op op_addS (pv 5) pe_str) (pe_op op_addS pe_str (pv 5))))
 (pss_cons (ps_if (pt_cmpR (op_eqO T.p_Sendingu_equ (fnR_of (ok_Sendingu_equ T) T.b_Sendingu_equ) (hr.mono (by decide)) (units2 hr) pass0) (pv 12) (pe_make T.m_Sending (ok_Sendingu_initu T) (hr.mono (by decide)) (by rfl) T.g_Sending T.b_Sendingu_initu .nil pass0 (pa_cons (pv 10) (pa_cons (pe_make T.m_Book (ok_Booku_initu T) (hr.mono (by decide)) (by rfl) T.g_Book T.b_Booku_initu .nil pass0 (pa_cons (pv 24) (pa_cons (pv 6) pa_nil))) (pa_cons (pv 7) pa_nil)))) (nomark _))
  (pss_one (ps_ret pe_bl))
  pss_nil)
 (pss_cons (ps_set (i := 25) sc_law.nd rfl (Or.inl rfl) (pe_make T.m_Book (ok_Booku_initu T) (hr.mono (by decide)) (by rfl) T.g_Book T.b_Booku_initu .nil pass0 (pa_cons (pe_slice sl_str pe_str po_none (po_some (pe_callB (kLen K rfl) (by rfl) T.n_len (by decide +kernel) (pa_cons (pv 2) pa_nil)))) (pa_cons (pe_tup pa_nil) pa_nil))))
 (pss_cons (ps_if (pt_cmpR (op_eqO T.p_Sendingu_equ (fnR_of (ok_Sendingu_equ T) T.b_Sendingu_equ) (hr.mono (by decide)) (units2 hr) pass0) (pv 12) (pe_make T.m_Sending (ok_Sendingu_initu T) (hr.mono (by decide)) (by rfl) T.g_Sending T.b_Sendingu_initu .nil pass0 (pa_cons (pv 25) (pa_cons (pv 11) (pa_cons (pv 7) pa_nil)))) (nomark _))
  (pss_one (ps_ret pe_bl))
  pss_nil)
 (pss_one (ps_tryC rfl rfl sc_law.nd takes0
 (fun W pn xe tk po => (pss_cons (ps_set (i := 26) sc_law.nd rfl (Or.inl rfl) (pe_cOS (pv 12) T.o_Sending (fnR_ofX (okx_Sendingu_callu T) T.b_Sendingu_callu) (hr.mono (by decide)) (passAt tk) (pa_cons pe_str pa_nil)))
 (pss_one (ps_ret (pe_and (pe_cmpR op_isN_ (pv 26) pe_non (nomark _)) (pe_one pe_bl))))))
 (.named ⟨by rfl, by decide, .inl T.g_BadText⟩ (i := 27) rfl rfl (fun ea oe ecls ed epn hz hf => (pss_one (ps_ret (pe_cmpR op_eq (pe_xf T.xf_BadText T.xn_BadText_thing hz hf (pv 27)) pe_str (nomark _)))))
 .nil)))))))))))))))))))))))))))))))), fun ds R h => ?_⟩
  obtain ⟨ns, rfl, hns, hb, rfl⟩ := h
  walk_at "start"
  have cB := T.l_Book; have xB1 := T.x_Book_signs; have xB2 := T.x_Book_rules
  have cK := T.l_Keeps; have xK1 := T.x_Keeps_holds; have xK2 := T.x_Keeps_number
  have cS := T.l_Sending; have xS1 := T.x_Sending_one; have xS2 := T.x_Sending_other; have xS3 := T.x_Sending_images
  walk_at "w"
  refine ⟨⟨ns, 0, rfl, hns, hb, by omega⟩, fun s0 => ?_⟩
  walk_at "w"
  refine ⟨rfl, fun sg hsg => ?_⟩
  have hS := menu_signs sg hsg
  have hs := signs_ok sg hS
  have hs3 := hs.2
  walk_at "w"
  refine ⟨sg, 3, rfl, hS, by decide, fun rs hrs hl20 => ?_⟩
  have g1 := hrs.1.good
  have c1 := hrs.2
  have n1 := hrs.1.1
  walk_at "w"
  refine ⟨⟨ns, 1, rfl, hns, hb, by omega⟩, fun s1 => ?_⟩
  walk_at "w"
  refine ⟨rfl, fun sg3 hsg3 => ?_⟩
  have hS3 := menu_signs sg3 hsg3
  have hs4 := signs_ok sg3 hS3
  have hs5 := hs4.2
  have hs6 := hs4.1.1
  walk_at "w"
  refine ⟨sg3, 4, rfl, hS3, by decide, fun qs0 hqs0 hl0 => ?_⟩
  dsimp only [List.set]
  refine run_seq (run_cut (fun ρ' => ∃ (ims : List W), ρ' = [.d (.scr ns), .src s0, .d (.str sg), .d (rulesD rs), .src s1, .d (.str sg3), .d (rulesD qs0), .d (imgsD ims), .no, .no, .no, .no, .no, .no, .no, .no, .no, .no, .no, .no, .no, .no, .no, .no, .no, .no, .no, .no, .no, .no] ∧ ImOk sg sg3 ims 3) ?_ ?_)
  · walk_at "w"
    refine g_lc (np1 (by rfl) fun _ => rfl) ?_
    walk_at "w"
    refine ⟨fun i acc => ∃ ws : List W, acc = ws.map Dat.str ∧ ws.length = i ∧ ∀ w ∈ ws, w.length ≤ 3 ∧ ∀ c ∈ w, c ∈ sg3, ⟨[], rfl, rfl, by simp⟩, fun i x acc hx hw _ => ?_, fun acc _ hw => ?_⟩
    · obtain ⟨ws, rfl, hl, hw⟩ := hw
      obtain ⟨c, hc, rfl⟩ := map_get hx
      dsimp only [wipeS, List.set]
      walk_at "w"
      refine ⟨sg3, 3, rfl, hs6, by omega, by decide, fun t ht htc => ?_⟩
      refine ⟨ws ++ [t], by rw [List.map_append]; rfl, by rw [List.length_append, List.length_singleton, hl], all_snoc hw ⟨ht, htc⟩⟩
    · obtain ⟨ws, rfl, hl, hw⟩ := hw
      rw [List.length_map] at hl
      walk_at "w"
      exact ⟨ws, rfl, hl, by omega, fun w hw' => (hw w hw').1, fun w hw' => (hw w hw').2⟩
  rintro ρ' ⟨ims0, rfl, hi0⟩
  walk_at "w"
  refine ⟨_, rfl, by decide, by decide, fun d hd => ?_⟩
  dsimp only [List.set]
  refine run_seq (run_cut (fun ρ' => ∃ (sg2 : W) (qs : List Rl) (ims : List W) (s8 s9 : Slot), ρ' = [.d (.scr ns), .src s0, .d (.str sg), .d (rulesD rs), .src s1, .d (.str sg2), .d (rulesD qs), .d (imgsD ims), s8, s9, .no, .no, .no, .no, .no, .no, .no, .no, .no, .no, .no, .no, .no, .no, .no, .no, .no, .no, .no, .no] ∧ sg2 ∈ Signs ∧ Set7 sg2 qs ∧ qs.length ≤ 21 ∧ ImOk sg sg2 ims 3) ?_ ?_)
  · walk_at "w"
    refine BV.c_dec (fun h0 => ?_) fun h0 => ?_
    · have hs1 := hs.1.1
      have g0 : sg[0]? = some (sg.getD 0 0) := by rw [List.getD_eq_getElem?_getD, List.getElem?_eq_getElem (by omega)]; rfl
      have hc0 : sg.getD 0 0 ∈ sg := List.mem_of_getElem? g0
      generalize sg.getD 0 0 = c0 at g0 hc0
      have hr0 : RuleOk sg ([c0, c0], [c0]) := ⟨⟨show 1 < 2 by decide, show 2 ≤ 4 by decide, show 1 ≤ 1 by decide⟩, fun c hc => by
        simp only [List.mem_cons, List.not_mem_nil, or_false, or_self] at hc
        rw [hc]; exact hc0, fun c hc => by
        rw [List.mem_singleton.mp hc]; exact hc0⟩
      have hii : ImOk sg sg (sg.map fun c => [c]) 3 := ⟨List.length_map _, by omega, fun w hw => by
        obtain ⟨c, _, rfl⟩ := List.mem_map.mp hw
        exact (by decide : (1 : Nat) ≤ 3), fun w hw c' hc' => by
        obtain ⟨c, hc, rfl⟩ := List.mem_map.mp hw
        rw [List.mem_singleton.mp hc']
        exact hc⟩
      walk_at "w"
      refine g_lcF (fun c : Nat => Dat.str [c]) (fun c => Dat.str [c]) (np1 (by rfl) fun _ => rfl) ?_
      walk_at "w"
      refine ⟨sg, rfl, by omega, fun c hc => ?_, ?_⟩
      · dsimp only [wipeS, List.set]
        walk_at "w"
        rfl
      have hie : Dat.tup (sg.map fun c => Dat.str [c]) = imgsD (sg.map fun c => [c]) := by
        unfold imgsD
        rw [List.map_map]
        rfl
      have hre : Dat.tup (rs.map ruleD ++ [Dat.tup [Dat.str (List.replicate (Int.toNat 2) [c0]).flatten, Dat.str [c0]]]) = rulesD (rs ++ [([c0, c0], [c0])]) := by
        unfold rulesD
        rw [List.map_append]
        rfl
      walk_at "w"
      rw [hie]
      refine ⟨_, rfl, by decide, by decide, fun d2 hd2 => ?_⟩
      walk_at "w"
      refine BV.c_dec (fun h2 => ?_) fun h2 => ?_
      · walk_at "w"
        have hgr : ∀ q ∈ rs ++ [([c0, c0], [c0])], RuleOk sg q := all_snoc hrs.1.2.2 hr0
        refine ⟨rs ++ [([c0, c0], [c0])], _, by rw [List.map_append]; rfl, .inr rfl, fun q hq => (hgr q hq).1, by rw [List.length_append, List.length_singleton]; omega, fun o ho => ?_⟩
        cases o with
        | some w =>
          walk_at "w"
          exact ⟨sg, rs, _, _, _, rfl, hS, hrs, by omega, hii⟩
        | none =>
          walk_at "w"
          refine o2_inDT (shp_rule (r := ([c0, c0], [c0])) (hr0.lw hs.1)) (shp_rulesT fun r hr => (hrs.1.2.2 r hr).lw hs.1) ?_
          rw [if_pos rfl]
          have ea := any_rules rs ([c0, c0], [c0])
          rw [show (toPs (rs.map ruleD)).any (fun z => PyData.eqv z (toP (.tup [.str (List.replicate (Int.toNat 2) [c0]).flatten, .str [c0]]))) = decide (([c0, c0], [c0]) ∈ rs) from ea]
          walk_at "w"
          refine BV.c_nec (fun hni => ?_) fun hni => ?_
          · walk_at "w"
            exact ⟨sg, rs ++ [([c0, c0], [c0])], sg.map fun c => [c], _, _, by dsimp only [List.set]; rw [hre], hS, ⟨⟨by rw [List.length_append, List.length_singleton]; omega, nodup_snoc hrs.1.2.1 hni, hgr⟩, conf_of (fun q hq => (hgr q hq).1) (ho.res rfl)⟩, by rw [List.length_append, List.length_singleton]; omega, hii⟩
          · walk_at "w"
            exact ⟨sg, rs, _, _, _, rfl, hS, hrs, by omega, hii⟩
      · walk_at "w"
        exact ⟨sg, rs, _, _, _, rfl, hS, hrs, by omega, hii⟩
    · walk_at "w"
      refine BV.c_dec (fun h1 => ?_) fun h1 => ?_
      · walk_at "w"
        refine ⟨sg3, 1, rfl, hs6, by omega, by decide, fun t ht htc => ?_⟩
        walk_at "w"
        refine g_lcF (fun c : Nat => Dat.str [c]) (fun _ => Dat.str t) (np1 (by rfl) fun _ => rfl) ?_
        walk_at "w"
        refine ⟨sg, rfl, by omega, fun c hc => ?_, ?_⟩
        · dsimp only [wipeS, List.set]
          walk_at "w"
          rfl
        walk_at "w"
        refine ⟨sg3, qs0, sg.map fun _ => t, .d (.int (d : Int)), .d (.str t), ?_, hS3, hqs0, by omega, List.length_map _, by omega, fun w hw => ?_, fun w hw => ?_⟩
        · dsimp only [List.set, imgsD]
          rw [List.map_map]
          rfl
        · obtain ⟨_, _, rfl⟩ := List.mem_map.mp hw
          omega
        · obtain ⟨_, _, rfl⟩ := List.mem_map.mp hw
          exact htc
      · walk_at "w"
        exact ⟨sg3, qs0, ims0, _, _, rfl, hS3, hqs0, by omega, hi0⟩
  rintro ρ' ⟨sg2, qs, ims, s8, s9, rfl, hS2, hqs, hlq, hi⟩
  have hs2 := signs_ok sg2 hS2
  have g2 := hqs.1.good
  have c2 := hqs.2
  have n2 := hqs.1.1
  have lw1 : ∀ r ∈ rs, RLw r := fun r hr => (hrs.1.2.2 r hr).lw hs.1
  have lw2 : ∀ r ∈ qs, RLw r := fun r hr => (hqs.1.2.2 r hr).lw hs2.1
  have hi2 : ImOk sg sg2 ims 200 := ⟨hi.len, hi.lo, fun w hw => Nat.le_trans (hi.sh w hw) (by decide), hi.ch⟩
  have swi := shw_imgs hs2.1 hi
  walk_at "w"
  refine ⟨sg, rs, rfl, hs.1, hrs.1, fun o mv ho => ?_⟩
  obtain rfl := conf_none c1 ho
  walk_at "w"
  refine ⟨sg2, qs, rfl, hs2.1, hqs.1, fun o mv2 ho2 => ?_⟩
  obtain rfl := conf_none c2 ho2
  walk_at "w"
  refine ⟨_, _, rfl, ?_⟩
  dsimp only [List.set]
  walk_at "w"
  refine ⟨sg, rs, mv, sg2, qs, mv2, _, ims, rfl, .inl rfl, hi2, by omega, ?_⟩
  walk_at "w"
  refine ⟨sg, sg, rs, rs, none, none, mv, mv, rfl, lw1, lw1, ?_⟩
  rw [decide_eq_true rfl, decide_eq_true rfl, Bool.and_true]
  walk_at "w"
  refine ⟨sg2, sg2, qs, qs, none, none, mv2, mv2, rfl, lw2, lw2, ?_⟩
  rw [decide_eq_true rfl, decide_eq_true rfl, Bool.and_true]
  walk_at "w"
  · exact swi
  walk_at "w"
  · exact swi
  walk_at "w"
  refine BV.c_ndt rfl ?_
  walk_at "w"
  refine ⟨fun i ρ' => ∃ (u : Option Nat) (s14 s15 : Slot), ρ' = [.d (.scr ns), .src s0, .d (.str sg), .d (rulesD rs), .src s1, .d (.str sg2), .d (rulesD qs), .d (imgsD ims), s8, s9, .d (.obj a.C_Book (bookF sg rs none mv)), .d (.obj a.C_Book (bookF sg2 qs none mv2)), .d (.obj a.C_Sending (sendF a.C_Book sg rs mv sg2 qs mv2 ims)), .d (optI u), s14, s15, .no, .no, .no, .no, .no, .no, .no, .no, .no, .no, .no, .no, .no, .no] ∧ (u = none → ∀ q ∈ rs.take i, badR qs sg ims q = false) ∧ ∀ j, u = some j → lostAt qs sg ims rs = some j ∧ j < rs.length, ⟨none, _, _, rfl, fun _ q hq => (by simp at hq), fun j e => (by cases e)⟩, fun i x ρ' hx hw => ?_, fun ρ' hw => ?_⟩
  · obtain ⟨u, s14, s15, rfl, ho, hu⟩ := hw
    obtain ⟨hk, rfl⟩ := rng0_get hx
    rw [Int.toNat_natCast, List.length_map] at hk
    have hr : rs[i]? = some rs[i] := List.getElem?_eq_getElem hk
    obtain ⟨⟨k1, k2, k3⟩, k4, k5⟩ := hrs.1.2.2 _ (List.getElem_mem hk)
    generalize rs[i] = r at hr k1 k2 k3 k4 k5
    walk_at "w"
    refine g_lcF Dat.str (fun s => .str (imEnd qs sg ims s)) (np1 (by rfl) fun _ => rfl) ?_
    walk_at "w"
    refine ⟨[r.1, r.2], rfl, (show 2 < 1000000 by decide), fun t ht => ?_, ?_⟩
    · have htc : (∀ c ∈ t, c ∈ sg) ∧ t.length ≤ 4 := by
        simp only [List.mem_cons, List.not_mem_nil, or_false] at ht
        rcases ht with rfl | rfl
        · exact ⟨k4, k2⟩
        · exact ⟨k5, by omega⟩
      dsimp only [wipeS, List.set]
      walk_at "w"
      refine ⟨sg, sg2, qs, ims, t, 3, rfl, hi, hqs.1, htc.1, by omega, by omega, ?_⟩
      walk_at "w"
      rfl
    dsimp only [List.map, List.set]
    cases u with
    | some j =>
      walk_at "w"
      refine ⟨fun z => (nomatch z), fun _ => ?_⟩
      walk_at "w"
      exact ⟨some j, _, _, rfl, fun z => (by cases z), hu⟩
    | none =>
      walk_at "w"
      by_cases e : imEnd qs sg ims r.1 = imEnd qs sg ims r.2
      · refine BV.c_ndt e ?_
        walk_at "w"
        refine ⟨none, _, _, rfl, fun _ q hq => ?_, fun j e => (by cases e)⟩
        rw [take_snoc hr] at hq
        rcases List.mem_append.mp hq with z | z
        · exact ho rfl q z
        · rw [List.mem_singleton.mp z]
          exact decide_eq_false fun z => z e
      · refine BV.c_ndf e ?_
        walk_at "w"
        refine ⟨some i, _, _, rfl, fun z => (by cases z), fun j e2 => ?_⟩
        cases e2
        exact ⟨lost_some (ho rfl) hr (decide_eq_true e), hk⟩
  obtain ⟨u, s14, s15, rfl, ho, hu⟩ := hw
  rw [rngI_len, Int.toNat_natCast, List.length_map, List.take_length] at ho
  have hlost : lostAt qs sg ims rs = u := by
    cases u with
    | none => exact lost_none (ho rfl)
    | some j => exact (hu j rfl).1
  have hub : ∀ j, u = some j → j < 65 := fun j e => by
    have := (hu j e).2
    omega
  walk_at "w"
  refine ⟨rfl, ?_⟩
  walk_at "w"
  refine ⟨sg, rs, mv, sg2, qs, mv2, ims, 3, rfl, hi, by decide, hrs.1, hqs.1, ?_⟩
  rw [hlost]
  dsimp only [List.set]
  refine run_seq (run_cut (fun ρ' => ρ' = [.d (.scr ns), .src s0, .d (.str sg), .d (rulesD rs), .src s1, .d (.str sg2), .d (rulesD qs), .d (imgsD ims), s8, s9, .d (.obj a.C_Book (bookF sg rs none mv)), .d (.obj a.C_Book (bookF sg2 qs none mv2)), .d (.obj a.C_Sending (sendF a.C_Book sg rs mv sg2 qs mv2 ims)), .d (optI u), s14, s15, .d (.obj a.C_Keeps (keepF u)), .no, .no, .no, .no, .no, .no, .no, .no, .no, .no, .no, .no, .no]) ?_ ?_)
  · cases u with
    | none =>
      walk_at "w"
      refine BV.c_ndt rfl ?_
      walk_at "w"
      refine BV.c_ndt rfl ?_
      walk_at "w"
      refine ⟨none, rfl, ?_⟩
      walk_at "w"
      refine BV.c_ndt rfl ?_
      walk_at "w"
      rfl
    | some j =>
      have hj := hub j rfl
      have hlg : (j : Int).natAbs.log2 < 1920 := Nat.lt_of_le_of_lt (Nat.log2_le_self _) (by omega)
      walk_at "w"
      · exact hlg
      walk_at "w"
      · exact hlg
      walk_at "w"
      refine BV.c_ndt rfl ?_
      walk_at "w"
      refine BV.c_ndt rfl ?_
      walk_at "w"
      refine ⟨some j, rfl, ?_⟩
      walk_at "w"
      refine BV.c_ndt rfl ?_
      walk_at "w"
      rfl
  rintro ρ' rfl
  have h1 := hs.1.1
  have h8 := hs.1.2.1
  walk_at "w"
  refine ⟨fun i ρ' => ∃ s17 s18 s19, ρ' = [.d (.scr ns), .src s0, .d (.str sg), .d (rulesD rs), .src s1, .d (.str sg2), .d (rulesD qs), .d (imgsD ims), s8, s9, .d (.obj a.C_Book (bookF sg rs none mv)), .d (.obj a.C_Book (bookF sg2 qs none mv2)), .d (.obj a.C_Sending (sendF a.C_Book sg rs mv sg2 qs mv2 ims)), .d (optI u), s14, s15, .d (.obj a.C_Keeps (keepF u)), s17, s18, s19, .no, .no, .no, .no, .no, .no, .no, .no, .no, .no], ⟨_, _, _, rfl⟩, fun i x ρ' hx hw => ?_, fun ρ' hw => ?_⟩
  · obtain ⟨s17, s18, s19, rfl⟩ := hw
    obtain ⟨hk, rfl⟩ := rng0_get hx
    have hk3 : i < 3 := hk
    walk_at "w"
    refine ⟨⟨ns, i + 2, by rw [show (((i + 2 : Nat)) : Int) = (i : Int) + 2 by omega], hns, hb, by omega⟩, ?_⟩
    walk_at "w"
    refine ⟨sg, 8, rfl, h1, h8, by decide, fun t ht htc => ?_⟩
    walk_at "w"
    refine ⟨sg, sg2, qs, ims, t, 3, rfl, hi, hqs.1, htc, by omega, by omega, ?_⟩
    have hel := imEnd_len g2 hi.sh (sg := sg) t
    have hec := List.all_eq_true.mp (sg_chars hs2.1 (imEnd_ch (sg := sg) hqs.1 hi.ch t))
    walk_at "w"
    refine ⟨sg, rs, mv, sg2, qs, mv2, ims, t, 3, rfl, hi, hqs.1, htc, by omega, by omega, ?_⟩
    walk_at "w"
    · omega
    · exact fun c hc => of_decide_eq_true (hec c hc)
    walk_at "w"
    · omega
    · exact fun c hc => of_decide_eq_true (hec c hc)
    walk_at "w"
    refine BV.c_ndt rfl ?_
    cases u with
    | some j =>
      walk_at "w"
      refine ⟨fun z => (nomatch z), fun _ => ?_⟩
      walk_at "w"
      exact ⟨_, _, _, rfl⟩
    | none =>
      walk_at "w"
      refine ⟨rs, t, rfl, g1, n1, by omega, fun v hv => ?_⟩
      have hvl := hv.len g1
      walk_at "w"
      refine ⟨sg, rs, mv, sg2, qs, mv2, ims, v, 3, rfl, hi, hqs.1, rch_in hrs.1 hv htc, by omega, by omega, ?_⟩
      rw [← imEnd_rch g2 c2 (lost_kept hlost) hv]
      walk_at "w"
      refine BV.c_ndt rfl ?_
      walk_at "w"
      exact ⟨_, _, _, rfl⟩
  obtain ⟨s17, s18, s19, rfl⟩ := hw
  have hil := hi.len
  have hml : (ims.map Dat.str).length = ims.length := List.length_map _
  have h21 := hs2.1.1
  have h28 := hs2.1.2.1
  have g20 : sg2[0]? = some (sg2.getD 0 0) := by rw [List.getD_eq_getElem?_getD, List.getElem?_eq_getElem (by omega)]; rfl
  have hc20 : sg2.getD 0 0 ∈ sg2 := List.mem_of_getElem? g20
  walk_at "w"
  refine ⟨_, rfl, by omega, by omega, fun e he => ?_⟩
  rw [hml] at he
  have he2 : e < ims.length := by omega
  walk_at "w"
  refine ⟨_, rfl, by decide, by decide, fun d hd => ?_⟩
  have hc1 := cut_le (ims.map Dat.str) none (some (e : Int))
  have hc2 := cut_le (ims.map Dat.str) (some ((e : Int) + 1)) none
  have hc3 := cut_le (ims.map Dat.str) none (some (-1))
  have shi := shp_imgs (xs := ims) fun w hw => hs2.1.lw (hi.ch w hw)
  obtain ⟨x, hx, tx, ix⟩ := odd_at (sg2.getD 0 0) hS2 d (by omega)
  refine o2_ixL (at_nat hx) ?_
  walk_at "w"
  rw [cut_to _ (by omega), cut_from _ (by omega), Int.toNat_natCast, show ((e : Int) + 1).toNat = e + 1 by omega]
  refine ⟨sg, rs, mv, sg2, qs, mv2, _, (e : Int), rfl, by omega, by omega, spoilt_bad hi he2 tx ix, ?_⟩
  walk_at "w"
  refine ⟨_, rfl, by decide, by decide, fun d2 hd2 => ?_⟩
  obtain ⟨y, hy, hby⟩ := four_at hi h1 d2 (by omega)
  refine o2_ixL (at_nat hy) ?_
  walk_at "w"
  refine ⟨sg, rs, mv, sg2, qs, mv2, y, -1, rfl, by omega, by omega, hby, ?_⟩
  have g10 : sg[0]? = some (sg.getD 0 0) := by rw [List.getD_eq_getElem?_getD, List.getElem?_eq_getElem (by omega)]; rfl
  have hc10 : sg.getD 0 0 ∈ sg := List.mem_of_getElem? g10
  have hl200 : ((List.replicate (Int.toNat 200) [sg2.getD 0 0]).flatten).length = 200 := by rw [List.length_flatten]; simp
  have hch200 : ∀ c ∈ (List.replicate (Int.toNat 200) [sg2.getD 0 0]).flatten, c ∈ sg2 := fun c hc => by
    obtain ⟨w, hw, hcw⟩ := List.mem_flatten.mp hc
    rw [(List.mem_replicate.mp hw).2, List.mem_singleton] at hcw
    rw [hcw]
    exact hc20
  walk_at "w"
  generalize (List.replicate (Int.toNat 200) [sg2.getD 0 0]).flatten = lng at hl200 hch200
  refine o2_repU h1 (by omega) (List.cons_ne_nil _ _) (show 1 ≤ 1000 by decide) ?_
  rw [rep_imgs]
  have hiL : ImOk sg sg2 (List.replicate sg.length lng) 200 := ⟨List.length_replicate, hi.lo, fun w hw => by
    rw [(List.mem_replicate.mp hw).2]
    omega, fun w hw => by
    rw [(List.mem_replicate.mp hw).2]
    exact hch200⟩
  walk_at "w"
  refine ⟨sg, rs, mv, sg2, qs, mv2, _, List.replicate sg.length lng, rfl, .inr rfl, hiL, by omega, ?_⟩
  walk_at "w"
  refine ⟨sg, rs, mv, sg2, qs, mv2, _, [sg.getD 0 0], 200, rfl, hiL, hqs.1, (fun c hc => by rw [List.mem_singleton.mp hc]; exact hc10), (show 1 * 200 ≤ 200 by decide), (show 1 ≤ 200 by decide), ?_⟩
  rw [imEnd_rep qs hc10]
  walk_at "w"
  refine ⟨qs, _, lng, rfl, .inr rfl, g2, by omega, by omega, ?_⟩
  walk_at "w"
  refine BV.c_ndt rfl ?_
  walk_at "w"
  refine ⟨sg, rs, rfl, hs.1, hrs.1, fun o mv3 ho3 => ?_⟩
  obtain rfl := conf_none c1 ho3
  walk_at "w"
  refine ⟨sg, rs, mv3, sg2, qs, mv2, _, ims, rfl, .inr rfl, hi2, by omega, ?_⟩
  walk_at "w"
  refine ⟨sg, rs, mv, sg2, qs, mv2, ims, _, rfl, lw1, lw2, .inr ⟨sg, rs, mv3, sg2, qs, mv2, ims, rfl, lw1, lw2, shi, shi, ?_⟩⟩
  rw [show ((decide (sg = sg) && decide (rs = rs)) && ((decide (sg2 = sg2) && decide (qs = qs)) && deq (imgsD ims) (imgsD ims))) = true by rw [deq_imgs]; simp]
  walk_at "w"
  refine o2_eqT ⟨sg, rs, mv, sg2, qs, mv2, ims, _, rfl, lw1, lw2, .inl ⟨⟨_, rfl⟩, ?_⟩⟩
  walk_at "w"
  obtain ⟨us, wl, hul⟩ : ∃ us wl, ims = us ++ [wl] := ⟨ims.dropLast, ims.getLast (fun z => by rw [z] at he2; cases he2), (List.dropLast_concat_getLast _).symm⟩
  have hat : atI (ims.map Dat.str) (-1) = some (.str wl) := by rw [hul, List.map_append]; exact at_last _ _
  have hcut : cut (ims.map Dat.str) none (some (-1)) = us.map Dat.str := by rw [hul, List.map_append]; exact cut_m1 _ _
  have hwm : wl ∈ ims := by rw [hul]; simp
  have hwl := hi.sh wl hwm
  have hwc := hi.ch wl hwm
  have hi3 : ImOk sg sg2 (us ++ [wl ++ [sg2.getD 0 0]]) 200 := by
    refine ⟨?_, hi.lo, all_snoc (fun w hw => Nat.le_trans (hi.sh w (by rw [hul]; exact List.mem_append_left _ hw)) (by decide)) ?_, all_snoc (fun w hw => hi.ch w (by rw [hul]; exact List.mem_append_left _ hw)) (all_snoc hwc hc20)⟩
    · rw [← hi.len, hul, List.length_append, List.length_append]
      rfl
    · rw [List.length_append, List.length_singleton]
      omega
  have hne3 : ims ≠ us ++ [wl ++ [sg2.getD 0 0]] := fun z => by
    rw [hul] at z
    have := List.append_cancel_left z
    simp at this
  refine o2_ixT hat ?_
  walk_at "w"
  rw [hcut, show us.map Dat.str ++ [Dat.str (wl ++ [sg2.getD 0 0])] = (us ++ [wl ++ [sg2.getD 0 0]]).map Dat.str by rw [List.map_append]; rfl]
  refine ⟨sg, rs, mv, sg2, qs, mv2, _, us ++ [wl ++ [sg2.getD 0 0]], rfl, .inr rfl, hi3, by omega, ?_⟩
  walk_at "w"
  refine ⟨sg, rs, mv, sg2, qs, mv2, ims, _, rfl, lw1, lw2, .inr ⟨sg, rs, mv, sg2, qs, mv2, us ++ [wl ++ [sg2.getD 0 0]], rfl, lw1, lw2, shi, shp_imgs (fun w hw => hs2.1.lw (hi3.ch w hw)), ?_⟩⟩
  rw [deq_imgs, decide_eq_false hne3, Bool.and_false, Bool.and_false]
  walk_at "w"
  obtain ⟨hB1, hB2, hB3⟩ := bare_ok sg hS
  obtain ⟨wz1, wz2⟩ := wide_len
  have w8 := eight_len
  refine o2_ixS (by omega) (last_at sg2 hS2) ?_
  walk_at "w"
  refine BV.c_dec (fun hlt => ?_) fun hlt => ?_
  · have hW : SgOk (sg2 ++ (Str.ofString "z").cps.toList) := wide_z sg2 hS2 hlt
    have hWm : ∀ c ∈ sg2, c ∈ sg2 ++ (Str.ofString "z").cps.toList := fun c hc => List.mem_append_left _ hc
    have hWn : sg2 ≠ sg2 ++ (Str.ofString "z").cps.toList := fun z => by
      have := congrArg List.length z
      rw [List.length_append] at this
      omega
    have hWl : (sg2 ++ (Str.ofString "z").cps.toList).length = sg2.length + 1 := by rw [List.length_append]; omega
    walk_at "w"
    generalize hgw : sg2 ++ (Str.ofString "z").cps.toList = wd at hW hWm hWn hWl
    refine ⟨wd, qs, rfl, hW, rs_wide hqs.1 hWm, fun o mv4 ho4 => ?_⟩
    obtain rfl := conf_none c2 ho4
    walk_at "w"
    refine ⟨sg, rs, mv, wd, qs, mv4, _, ims, rfl, .inr rfl, ⟨hi2.len, hi2.lo, hi2.sh, fun w hw c hc => hWm c (hi.ch w hw c hc)⟩, by omega, ?_⟩
    walk_at "w"
    refine ⟨sg, rs, mv, sg2, qs, mv2, ims, _, rfl, lw1, lw2, .inr ⟨sg, rs, mv, wd, qs, mv4, ims, rfl, lw1, lw2, shi, shi, ?_⟩⟩
    rw [decide_eq_false hWn, Bool.false_and, Bool.false_and, Bool.and_false]
    walk_at "w"
    rw [cut_to _ (by omega), Int.toNat_natCast]
    generalize (Str.ofString "defghijk").cps.toList.take sg.length = bw at hB1 hB2 hB3
    refine ⟨bw, [], rfl, hB1, ⟨Nat.zero_le _, List.nodup_nil, fun r hr => by cases hr⟩, fun o mv5 ho5 => ?_⟩
    obtain rfl := nil_least ho5
    walk_at "w"
    refine ⟨bw, [], mv5, sg2, qs, mv2, _, ims, rfl, .inr rfl, ⟨hi2.len.trans hB3.symm, by omega, hi2.sh, hi2.ch⟩, by omega, ?_⟩
    walk_at "w"
    refine ⟨sg, rs, mv, sg2, qs, mv2, ims, _, rfl, lw1, lw2, .inr ⟨bw, [], mv5, sg2, qs, mv2, ims, rfl, (fun r hr => by cases hr), lw2, shi, shi, ?_⟩⟩
    rw [decide_eq_false hB2, Bool.false_and, Bool.false_and]
    walk_at "w"
    refine run_try (RE := fun C' fl ρ' => C' = a.C_BadText ∧ fl = ([(("thing" : Str), Dat.str (Str.ofString "Q").cps.toList)] : List (Str × Dat)) ∧ ρ' = [.d (.scr ns), .src s0, .d (.str sg), .d (rulesD rs), .src s1, .d (.str sg2), .d (rulesD qs), .d (imgsD ims), s8, s9, .d (.obj a.C_Book (bookF sg rs none mv)), .d (.obj a.C_Book (bookF sg2 qs none mv2)), .d (.obj a.C_Sending (sendF a.C_Book sg rs mv sg2 qs mv2 ims)), .d (optI u), s14, s15, .d (.obj a.C_Keeps (keepF u)), s17, s18, s19, .d (.int (e : Int)), .d x, .d (.str lng), .d (.obj a.C_Sending (sendF a.C_Book sg rs mv3 sg2 qs mv2 ims)), .d (.str wd), .d (.obj a.C_Book (bookF bw [] none mv5)), .no, .no, .no, .no]) (fun W => ?_) fun C' fl ρ' h => ?_
    · walk_at "w"
      exact ⟨fun C' fl => C' = a.C_BadText ∧ fl = ([(("thing" : Str), Dat.str (Str.ofString "Q").cps.toList)] : List (Str × Dat)), ⟨sg, rs, mv, sg2, qs, mv2, ims, _, rfl, h8, .inr (.inr (.inr ⟨_, rfl, Nat.le_of_ble_eq_true rfl⟩)), no_Q sg hS, rfl, rfl⟩, fun C' fl h => ⟨h.1, h.2, rfl⟩⟩
    · obtain ⟨rfl, rfl, rfl⟩ := h
      refine ⟨true, T.xm_BadText_BadText, fun _ ea ed => ?_, fun z => (nomatch z)⟩
      dsimp only [onS, List.set]
      walk_at "w"
      rw [decide_eq_true rfl]
  · have hW : SgOk ((Str.ofString "a").cps.toList ++ sg2) := wide_a sg2 hS2 hlt
    have hWm : ∀ c ∈ sg2, c ∈ (Str.ofString "a").cps.toList ++ sg2 := fun c hc => List.mem_append_right _ hc
    have hWn : sg2 ≠ (Str.ofString "a").cps.toList ++ sg2 := fun z => by
      have := congrArg List.length z
      rw [List.length_append] at this
      omega
    have hWl : ((Str.ofString "a").cps.toList ++ sg2).length = sg2.length + 1 := by rw [List.length_append]; omega
    walk_at "w"
    generalize hgw : (Str.ofString "a").cps.toList ++ sg2 = wd at hW hWm hWn hWl
    refine ⟨wd, qs, rfl, hW, rs_wide hqs.1 hWm, fun o mv4 ho4 => ?_⟩
    obtain rfl := conf_none c2 ho4
    walk_at "w"
    refine ⟨sg, rs, mv, wd, qs, mv4, _, ims, rfl, .inr rfl, ⟨hi2.len, hi2.lo, hi2.sh, fun w hw c hc => hWm c (hi.ch w hw c hc)⟩, by omega, ?_⟩
    walk_at "w"
    refine ⟨sg, rs, mv, sg2, qs, mv2, ims, _, rfl, lw1, lw2, .inr ⟨sg, rs, mv, wd, qs, mv4, ims, rfl, lw1, lw2, shi, shi, ?_⟩⟩
    rw [decide_eq_false hWn, Bool.false_and, Bool.false_and, Bool.and_false]
    walk_at "w"
    rw [cut_to _ (by omega), Int.toNat_natCast]
    generalize (Str.ofString "defghijk").cps.toList.take sg.length = bw at hB1 hB2 hB3
    refine ⟨bw, [], rfl, hB1, ⟨Nat.zero_le _, List.nodup_nil, fun r hr => by cases hr⟩, fun o mv5 ho5 => ?_⟩
    obtain rfl := nil_least ho5
    walk_at "w"
    refine ⟨bw, [], mv5, sg2, qs, mv2, _, ims, rfl, .inr rfl, ⟨hi2.len.trans hB3.symm, by omega, hi2.sh, hi2.ch⟩, by omega, ?_⟩
    walk_at "w"
    refine ⟨sg, rs, mv, sg2, qs, mv2, ims, _, rfl, lw1, lw2, .inr ⟨bw, [], mv5, sg2, qs, mv2, ims, rfl, (fun r hr => by cases hr), lw2, shi, shi, ?_⟩⟩
    rw [decide_eq_false hB2, Bool.false_and, Bool.false_and]
    walk_at "w"
    refine run_try (RE := fun C' fl ρ' => C' = a.C_BadText ∧ fl = ([(("thing" : Str), Dat.str (Str.ofString "Q").cps.toList)] : List (Str × Dat)) ∧ ρ' = [.d (.scr ns), .src s0, .d (.str sg), .d (rulesD rs), .src s1, .d (.str sg2), .d (rulesD qs), .d (imgsD ims), s8, s9, .d (.obj a.C_Book (bookF sg rs none mv)), .d (.obj a.C_Book (bookF sg2 qs none mv2)), .d (.obj a.C_Sending (sendF a.C_Book sg rs mv sg2 qs mv2 ims)), .d (optI u), s14, s15, .d (.obj a.C_Keeps (keepF u)), s17, s18, s19, .d (.int (e : Int)), .d x, .d (.str lng), .d (.obj a.C_Sending (sendF a.C_Book sg rs mv3 sg2 qs mv2 ims)), .d (.str wd), .d (.obj a.C_Book (bookF bw [] none mv5)), .no, .no, .no, .no]) (fun W => ?_) fun C' fl ρ' h => ?_
    · walk_at "w"
      exact ⟨fun C' fl => C' = a.C_BadText ∧ fl = ([(("thing" : Str), Dat.str (Str.ofString "Q").cps.toList)] : List (Str × Dat)), ⟨sg, rs, mv, sg2, qs, mv2, ims, _, rfl, h8, .inr (.inr (.inr ⟨_, rfl, Nat.le_of_ble_eq_true rfl⟩)), no_Q sg hS, rfl, rfl⟩, fun C' fl h => ⟨h.1, h.2, rfl⟩⟩
    · obtain ⟨rfl, rfl, rfl⟩ := h
      refine ⟨true, T.xm_BadText_BadText, fun _ ea ed => ?_, fun z => (nomatch z)⟩
      dsimp only [onS, List.set]
      walk_at "w"
      rw [decide_eq_true rfl]

end

end
section
open PySem L2 BV WM
theorem law_mk {l : PySem.W.OpenLaw} {w : World} {K : PySem.W.Frag} {h : Heap} {mg : Str → Option Value} {fa : Addr} (X : K.In h) (G : h.Ns mainGlobals mg) (hfa : mg "law" = some (.ref fa)) {C_Book C_Keeps C_Sending f_is_listed f_is_signs f_check_signs f_is_text f_check_text f_text_key f_first_rules f_longest_left f_used_at_end f_left_over f_overlap_rows f_both_results f_quarrel_of f_end_moves f_kept_tail f_is_rule f_checked_rules f_Booku_initu f_Booku_callu f_rest_of f_check_settled f__law_source f__law_pick f__law_signs f__law_text f__law_key f__law_left f__law_quarrel f__law_rule f__law_grown f__law_table_rules f__law_book f__law_known f__law_some f_law f_Booku_equ f_Keepsu_initu f_Keepsu_boolu f_checked_images f_image_end f_Sendingu_initu f_Sendingu_equ f_Sendingu_callu f_Sending_keeps f__law_image f__law_refused C_BadImage C_BadText C_WrongItem C_WrongThing f_WrongItemu_initu cc_WrongItemu_initu cda_WrongItemu_initu f_WrongThingu_initu cc_WrongThingu_initu cda_WrongThingu_initu : Addr}
    {t_LETTERS t_LONGEST_TEXT t_MOST_RULES t_LONGEST_LEFT : Tok}
    {od_is_listed an_is_listed od_is_signs an_is_signs od_check_signs an_check_signs od_is_text an_is_text od_check_text an_check_text od_text_key an_text_key od_first_rules an_first_rules od_longest_left an_longest_left od_used_at_end an_used_at_end od_left_over an_left_over od_overlap_rows an_overlap_rows od_both_results an_both_results od_quarrel_of an_quarrel_of od_end_moves an_end_moves od_kept_tail an_kept_tail od_is_rule an_is_rule od_checked_rules an_checked_rules od_Booku_initu an_Booku_initu od_Booku_callu an_Booku_callu od_rest_of an_rest_of od_check_settled an_check_settled od__law_source an__law_source od__law_pick an__law_pick od__law_signs an__law_signs od__law_text an__law_text od__law_key an__law_key od__law_left an__law_left od__law_quarrel an__law_quarrel od__law_rule an__law_rule od__law_grown an__law_grown od__law_table_rules an__law_table_rules od__law_book an__law_book od__law_known an__law_known od__law_some an__law_some od_law an_law od_Booku_equ an_Booku_equ od_Keepsu_initu an_Keepsu_initu od_Keepsu_boolu an_Keepsu_boolu od_checked_images an_checked_images od_image_end an_image_end od_Sendingu_initu an_Sendingu_initu od_Sendingu_equ an_Sendingu_equ od_Sendingu_callu an_Sendingu_callu od_Sending_keeps an_Sending_keeps od__law_image an__law_image od__law_refused an__law_refused od_WrongItemu_initu an_WrongItemu_initu od_WrongThingu_initu an_WrongThingu_initu : Option Addr} {sl_is_listed sl_is_signs sl_check_signs sl_is_text sl_check_text sl_text_key sl_first_rules sl_longest_left sl_used_at_end sl_left_over sl_overlap_rows sl_both_results sl_quarrel_of sl_end_moves sl_kept_tail sl_is_rule sl_checked_rules sl_Booku_initu sl_Booku_callu sl_rest_of sl_check_settled sl__law_source sl__law_pick sl__law_signs sl__law_text sl__law_key sl__law_left sl__law_quarrel sl__law_rule sl__law_grown sl__law_table_rules sl__law_book sl__law_known sl__law_some sl_law sl_Booku_equ sl_Keepsu_initu sl_Keepsu_boolu sl_checked_images sl_image_end sl_Sendingu_initu sl_Sendingu_equ sl_Sendingu_callu sl_Sending_keeps sl__law_image sl__law_refused sl_WrongItemu_initu sl_WrongThingu_initu : Array (Option Value)} {oc_is_listed kV_is_listed dc_is_listed pm_is_listed cd_is_listed ct_is_listed oc_is_signs kV_is_signs dc_is_signs pm_is_signs cd_is_signs ct_is_signs oc_check_signs kV_check_signs dc_check_signs pm_check_signs cd_check_signs ct_check_signs oc_is_text kV_is_text dc_is_text pm_is_text cd_is_text ct_is_text oc_check_text kV_check_text dc_check_text pm_check_text cd_check_text ct_check_text oc_text_key kV_text_key dc_text_key pm_text_key cd_text_key ct_text_key oc_first_rules kV_first_rules dc_first_rules pm_first_rules cd_first_rules ct_first_rules oc_longest_left kV_longest_left dc_longest_left pm_longest_left cd_longest_left ct_longest_left oc_used_at_end kV_used_at_end dc_used_at_end pm_used_at_end cd_used_at_end ct_used_at_end oc_left_over kV_left_over dc_left_over pm_left_over cd_left_over ct_left_over oc_overlap_rows kV_overlap_rows dc_overlap_rows pm_overlap_rows cd_overlap_rows ct_overlap_rows oc_both_results kV_both_results dc_both_results pm_both_results cd_both_results ct_both_results oc_quarrel_of kV_quarrel_of dc_quarrel_of pm_quarrel_of cd_quarrel_of ct_quarrel_of oc_end_moves kV_end_moves dc_end_moves pm_end_moves cd_end_moves ct_end_moves oc_kept_tail kV_kept_tail dc_kept_tail pm_kept_tail cd_kept_tail ct_kept_tail oc_is_rule kV_is_rule dc_is_rule pm_is_rule cd_is_rule ct_is_rule oc_checked_rules kV_checked_rules dc_checked_rules pm_checked_rules cd_checked_rules ct_checked_rules oc_Booku_initu kV_Booku_initu dc_Booku_initu pm_Booku_initu cd_Booku_initu ct_Booku_initu oc_Booku_callu kV_Booku_callu dc_Booku_callu pm_Booku_callu cd_Booku_callu ct_Booku_callu oc_rest_of kV_rest_of dc_rest_of pm_rest_of cd_rest_of ct_rest_of oc_check_settled kV_check_settled dc_check_settled pm_check_settled cd_check_settled ct_check_settled oc__law_source kV__law_source dc__law_source pm__law_source cd__law_source ct__law_source oc__law_pick kV__law_pick dc__law_pick pm__law_pick cd__law_pick ct__law_pick oc__law_signs kV__law_signs dc__law_signs pm__law_signs cd__law_signs ct__law_signs oc__law_text kV__law_text dc__law_text pm__law_text cd__law_text ct__law_text oc__law_key kV__law_key dc__law_key pm__law_key cd__law_key ct__law_key oc__law_left kV__law_left dc__law_left pm__law_left cd__law_left ct__law_left oc__law_quarrel kV__law_quarrel dc__law_quarrel pm__law_quarrel cd__law_quarrel ct__law_quarrel oc__law_rule kV__law_rule dc__law_rule pm__law_rule cd__law_rule ct__law_rule oc__law_grown kV__law_grown dc__law_grown pm__law_grown cd__law_grown ct__law_grown oc__law_table_rules kV__law_table_rules dc__law_table_rules pm__law_table_rules cd__law_table_rules ct__law_table_rules oc__law_book kV__law_book dc__law_book pm__law_book cd__law_book ct__law_book oc__law_known kV__law_known dc__law_known pm__law_known cd__law_known ct__law_known oc__law_some kV__law_some dc__law_some pm__law_some cd__law_some ct__law_some oc_law kV_law dc_law pm_law cd_law ct_law oc_Booku_equ kV_Booku_equ dc_Booku_equ pm_Booku_equ cd_Booku_equ ct_Booku_equ oc_Keepsu_initu kV_Keepsu_initu dc_Keepsu_initu pm_Keepsu_initu cd_Keepsu_initu ct_Keepsu_initu oc_Keepsu_boolu kV_Keepsu_boolu dc_Keepsu_boolu pm_Keepsu_boolu cd_Keepsu_boolu ct_Keepsu_boolu oc_checked_images kV_checked_images dc_checked_images pm_checked_images cd_checked_images ct_checked_images oc_image_end kV_image_end dc_image_end pm_image_end cd_image_end ct_image_end oc_Sendingu_initu kV_Sendingu_initu dc_Sendingu_initu pm_Sendingu_initu cd_Sendingu_initu ct_Sendingu_initu oc_Sendingu_equ kV_Sendingu_equ dc_Sendingu_equ pm_Sendingu_equ cd_Sendingu_equ ct_Sendingu_equ oc_Sendingu_callu kV_Sendingu_callu dc_Sendingu_callu pm_Sendingu_callu cd_Sendingu_callu ct_Sendingu_callu oc_Sending_keeps kV_Sending_keeps dc_Sending_keeps pm_Sending_keeps cd_Sending_keeps ct_Sending_keeps oc__law_image kV__law_image dc__law_image pm__law_image cd__law_image ct__law_image oc__law_refused kV__law_refused dc__law_refused pm__law_refused cd__law_refused ct__law_refused oc_WrongItemu_initu kV_WrongItemu_initu dc_WrongItemu_initu pm_WrongItemu_initu ct_WrongItemu_initu oc_WrongThingu_initu kV_WrongThingu_initu dc_WrongThingu_initu pm_WrongThingu_initu ct_WrongThingu_initu : Value}
    {xnm_BadImage : Str}
    {xq_BadImage : Str}
    {xN_BadImage : Addr}
    {xbs_BadImage : List Value}
    {xbm_BadImage : List Value}
    {xsn_BadImage : List Str}
    {xsub_BadImage : List Value}
    {xab_BadImage : Bool}
    {xcol_BadImage : Option Bool}
    {xdd_BadImage : Option Addr}
    {xk0_BadImage : Option Value}
    {xk1_BadImage : Option Value}
    {xk2_BadImage : Option Value}
    {xk3_BadImage : Option Value}
    {xk5_BadImage : Option Value}
    {xnm_BadText : Str}
    {xq_BadText : Str}
    {xN_BadText : Addr}
    {xbs_BadText : List Value}
    {xbm_BadText : List Value}
    {xsn_BadText : List Str}
    {xsub_BadText : List Value}
    {xab_BadText : Bool}
    {xcol_BadText : Option Bool}
    {xdd_BadText : Option Addr}
    {xk0_BadText : Option Value}
    {xk1_BadText : Option Value}
    {xk2_BadText : Option Value}
    {xk3_BadText : Option Value}
    {xk5_BadText : Option Value}
    {ucl_WrongItemu_initu : Value}
    {udd_WrongItemu_initu : Option Addr}
    {uvs_WrongItemu_initu : Array Value}
    {ucs_WrongItemu_initu : Array (Option Value)}
    {ufl_WrongItemu_initu : Str}
    {utf_WrongItemu_initu : Tok}
    {vcl_WrongItemu_initu : Value}
    {vcd_WrongItemu_initu : Option Addr}
    {vcs_WrongItemu_initu : Array (Option Value)}
    {wcl_WrongItemu_initu : Value}
    {wcd_WrongItemu_initu : Option Addr}
    {wdt_WrongItemu_initu : ClassData}
    {wsl_WrongItemu_initu : Array (Option Value)}
    {ucl_WrongThingu_initu : Value}
    {udd_WrongThingu_initu : Option Addr}
    {uvs_WrongThingu_initu : Array Value}
    {ucs_WrongThingu_initu : Array (Option Value)}
    {ufl_WrongThingu_initu : Str}
    {utf_WrongThingu_initu : Tok}
    {vcl_WrongThingu_initu : Value}
    {vcd_WrongThingu_initu : Option Addr}
    {vcs_WrongThingu_initu : Array (Option Value)}
    {wcl_WrongThingu_initu : Value}
    {wcd_WrongThingu_initu : Option Addr}
    {wdt_WrongThingu_initu : ClassData}
    {wsl_WrongThingu_initu : Array (Option Value)}
    (n_abs : PySem.W.nsIn K mainGlobals "abs" = some none)
    (n_any : PySem.W.nsIn K mainGlobals "any" = some none)
    (n_bool : PySem.W.nsIn K mainGlobals "bool" = some none)
    (n_int : PySem.W.nsIn K mainGlobals "int" = some none)
    (n_isinstance : PySem.W.nsIn K mainGlobals "isinstance" = some none)
    (n_len : PySem.W.nsIn K mainGlobals "len" = some none)
    (n_list : PySem.W.nsIn K mainGlobals "list" = some none)
    (n_max : PySem.W.nsIn K mainGlobals "max" = some none)
    (n_min : PySem.W.nsIn K mainGlobals "min" = some none)
    (n_range : PySem.W.nsIn K mainGlobals "range" = some none)
    (n_repr : PySem.W.nsIn K mainGlobals "repr" = some none)
    (n_str : PySem.W.nsIn K mainGlobals "str" = some none)
    (n_tuple : PySem.W.nsIn K mainGlobals "tuple" = some none)
    (c_LETTERS : PySem.W.nsIn K mainGlobals "LETTERS" = some (some (Value.str "abcdefghijklmnopqrstuvwxyz" t_LETTERS)))
    (c_LONGEST_TEXT : PySem.W.nsIn K mainGlobals "LONGEST_TEXT" = some (some (Value.int 200 t_LONGEST_TEXT)))
    (c_MOST_RULES : PySem.W.nsIn K mainGlobals "MOST_RULES" = some (some (Value.int 64 t_MOST_RULES)))
    (c_LONGEST_LEFT : PySem.W.nsIn K mainGlobals "LONGEST_LEFT" = some (some (Value.int 4 t_LONGEST_LEFT)))
    (a_is_listed : PySem.W.nsIn K mainGlobals "is_listed" = some (some (.ref f_is_listed)))
    (l_is_listed : K.lookup f_is_listed = some ⟨oc_is_listed, od_is_listed, .func (PySem.W.fnOf "is_listed" "is_listed" (defArgs s_is_listed) (defBody s_is_listed) (defScope s_is_listed) .none kV_is_listed dc_is_listed pm_is_listed an_is_listed cd_is_listed ct_is_listed), sl_is_listed⟩)
    (e_is_listed : PySem.W.codeIn K cd_is_listed "is_listed" = true)
    (k_is_listed : PySem.W.keepIn K (.ref f_is_listed) = true)
    (a_is_signs : PySem.W.nsIn K mainGlobals "is_signs" = some (some (.ref f_is_signs)))
    (l_is_signs : K.lookup f_is_signs = some ⟨oc_is_signs, od_is_signs, .func (PySem.W.fnOf "is_signs" "is_signs" (defArgs s_is_signs) (defBody s_is_signs) (defScope s_is_signs) .none kV_is_signs dc_is_signs pm_is_signs an_is_signs cd_is_signs ct_is_signs), sl_is_signs⟩)
    (e_is_signs : PySem.W.codeIn K cd_is_signs "is_signs" = true)
    (k_is_signs : PySem.W.keepIn K (.ref f_is_signs) = true)
    (a_check_signs : PySem.W.nsIn K mainGlobals "check_signs" = some (some (.ref f_check_signs)))
    (l_check_signs : K.lookup f_check_signs = some ⟨oc_check_signs, od_check_signs, .func (PySem.W.fnOf "check_signs" "check_signs" (defArgs s_check_signs) (defBody s_check_signs) (defScope s_check_signs) .none kV_check_signs dc_check_signs pm_check_signs an_check_signs cd_check_signs ct_check_signs), sl_check_signs⟩)
    (e_check_signs : PySem.W.codeIn K cd_check_signs "check_signs" = true)
    (k_check_signs : PySem.W.keepIn K (.ref f_check_signs) = true)
    (a_is_text : PySem.W.nsIn K mainGlobals "is_text" = some (some (.ref f_is_text)))
    (l_is_text : K.lookup f_is_text = some ⟨oc_is_text, od_is_text, .func (PySem.W.fnOf "is_text" "is_text" (defArgs s_is_text) (defBody s_is_text) (defScope s_is_text) .none kV_is_text dc_is_text pm_is_text an_is_text cd_is_text ct_is_text), sl_is_text⟩)
    (e_is_text : PySem.W.codeIn K cd_is_text "is_text" = true)
    (k_is_text : PySem.W.keepIn K (.ref f_is_text) = true)
    (a_check_text : PySem.W.nsIn K mainGlobals "check_text" = some (some (.ref f_check_text)))
    (l_check_text : K.lookup f_check_text = some ⟨oc_check_text, od_check_text, .func (PySem.W.fnOf "check_text" "check_text" (defArgs s_check_text) (defBody s_check_text) (defScope s_check_text) .none kV_check_text dc_check_text pm_check_text an_check_text cd_check_text ct_check_text), sl_check_text⟩)
    (e_check_text : PySem.W.codeIn K cd_check_text "check_text" = true)
    (k_check_text : PySem.W.keepIn K (.ref f_check_text) = true)
    (a_text_key : PySem.W.nsIn K mainGlobals "text_key" = some (some (.ref f_text_key)))
    (l_text_key : K.lookup f_text_key = some ⟨oc_text_key, od_text_key, .func (PySem.W.fnOf "text_key" "text_key" (defArgs s_text_key) (defBody s_text_key) (defScope s_text_key) .none kV_text_key dc_text_key pm_text_key an_text_key cd_text_key ct_text_key), sl_text_key⟩)
    (e_text_key : PySem.W.codeIn K cd_text_key "text_key" = true)
    (k_text_key : PySem.W.keepIn K (.ref f_text_key) = true)
    (a_first_rules : PySem.W.nsIn K mainGlobals "first_rules" = some (some (.ref f_first_rules)))
    (l_first_rules : K.lookup f_first_rules = some ⟨oc_first_rules, od_first_rules, .func (PySem.W.fnOf "first_rules" "first_rules" (defArgs s_first_rules) (defBody s_first_rules) (defScope s_first_rules) .none kV_first_rules dc_first_rules pm_first_rules an_first_rules cd_first_rules ct_first_rules), sl_first_rules⟩)
    (e_first_rules : PySem.W.codeIn K cd_first_rules "first_rules" = true)
    (k_first_rules : PySem.W.keepIn K (.ref f_first_rules) = true)
    (a_longest_left : PySem.W.nsIn K mainGlobals "longest_left" = some (some (.ref f_longest_left)))
    (l_longest_left : K.lookup f_longest_left = some ⟨oc_longest_left, od_longest_left, .func (PySem.W.fnOf "longest_left" "longest_left" (defArgs s_longest_left) (defBody s_longest_left) (defScope s_longest_left) .none kV_longest_left dc_longest_left pm_longest_left an_longest_left cd_longest_left ct_longest_left), sl_longest_left⟩)
    (e_longest_left : PySem.W.codeIn K cd_longest_left "longest_left" = true)
    (k_longest_left : PySem.W.keepIn K (.ref f_longest_left) = true)
    (a_used_at_end : PySem.W.nsIn K mainGlobals "used_at_end" = some (some (.ref f_used_at_end)))
    (l_used_at_end : K.lookup f_used_at_end = some ⟨oc_used_at_end, od_used_at_end, .func (PySem.W.fnOf "used_at_end" "used_at_end" (defArgs s_used_at_end) (defBody s_used_at_end) (defScope s_used_at_end) .none kV_used_at_end dc_used_at_end pm_used_at_end an_used_at_end cd_used_at_end ct_used_at_end), sl_used_at_end⟩)
    (e_used_at_end : PySem.W.codeIn K cd_used_at_end "used_at_end" = true)
    (k_used_at_end : PySem.W.keepIn K (.ref f_used_at_end) = true)
    (a_left_over : PySem.W.nsIn K mainGlobals "left_over" = some (some (.ref f_left_over)))
    (l_left_over : K.lookup f_left_over = some ⟨oc_left_over, od_left_over, .func (PySem.W.fnOf "left_over" "left_over" (defArgs s_left_over) (defBody s_left_over) (defScope s_left_over) .none kV_left_over dc_left_over pm_left_over an_left_over cd_left_over ct_left_over), sl_left_over⟩)
    (e_left_over : PySem.W.codeIn K cd_left_over "left_over" = true)
    (k_left_over : PySem.W.keepIn K (.ref f_left_over) = true)
    (a_overlap_rows : PySem.W.nsIn K mainGlobals "overlap_rows" = some (some (.ref f_overlap_rows)))
    (l_overlap_rows : K.lookup f_overlap_rows = some ⟨oc_overlap_rows, od_overlap_rows, .func (PySem.W.fnOf "overlap_rows" "overlap_rows" (defArgs s_overlap_rows) (defBody s_overlap_rows) (defScope s_overlap_rows) .none kV_overlap_rows dc_overlap_rows pm_overlap_rows an_overlap_rows cd_overlap_rows ct_overlap_rows), sl_overlap_rows⟩)
    (e_overlap_rows : PySem.W.codeIn K cd_overlap_rows "overlap_rows" = true)
    (k_overlap_rows : PySem.W.keepIn K (.ref f_overlap_rows) = true)
    (a_both_results : PySem.W.nsIn K mainGlobals "both_results" = some (some (.ref f_both_results)))
    (l_both_results : K.lookup f_both_results = some ⟨oc_both_results, od_both_results, .func (PySem.W.fnOf "both_results" "both_results" (defArgs s_both_results) (defBody s_both_results) (defScope s_both_results) .none kV_both_results dc_both_results pm_both_results an_both_results cd_both_results ct_both_results), sl_both_results⟩)
    (e_both_results : PySem.W.codeIn K cd_both_results "both_results" = true)
    (k_both_results : PySem.W.keepIn K (.ref f_both_results) = true)
    (a_quarrel_of : PySem.W.nsIn K mainGlobals "quarrel_of" = some (some (.ref f_quarrel_of)))
    (l_quarrel_of : K.lookup f_quarrel_of = some ⟨oc_quarrel_of, od_quarrel_of, .func (PySem.W.fnOf "quarrel_of" "quarrel_of" (defArgs s_quarrel_of) (defBody s_quarrel_of) (defScope s_quarrel_of) .none kV_quarrel_of dc_quarrel_of pm_quarrel_of an_quarrel_of cd_quarrel_of ct_quarrel_of), sl_quarrel_of⟩)
    (e_quarrel_of : PySem.W.codeIn K cd_quarrel_of "quarrel_of" = true)
    (k_quarrel_of : PySem.W.keepIn K (.ref f_quarrel_of) = true)
    (a_end_moves : PySem.W.nsIn K mainGlobals "end_moves" = some (some (.ref f_end_moves)))
    (l_end_moves : K.lookup f_end_moves = some ⟨oc_end_moves, od_end_moves, .func (PySem.W.fnOf "end_moves" "end_moves" (defArgs s_end_moves) (defBody s_end_moves) (defScope s_end_moves) .none kV_end_moves dc_end_moves pm_end_moves an_end_moves cd_end_moves ct_end_moves), sl_end_moves⟩)
    (e_end_moves : PySem.W.codeIn K cd_end_moves "end_moves" = true)
    (k_end_moves : PySem.W.keepIn K (.ref f_end_moves) = true)
    (a_kept_tail : PySem.W.nsIn K mainGlobals "kept_tail" = some (some (.ref f_kept_tail)))
    (l_kept_tail : K.lookup f_kept_tail = some ⟨oc_kept_tail, od_kept_tail, .func (PySem.W.fnOf "kept_tail" "kept_tail" (defArgs s_kept_tail) (defBody s_kept_tail) (defScope s_kept_tail) .none kV_kept_tail dc_kept_tail pm_kept_tail an_kept_tail cd_kept_tail ct_kept_tail), sl_kept_tail⟩)
    (e_kept_tail : PySem.W.codeIn K cd_kept_tail "kept_tail" = true)
    (k_kept_tail : PySem.W.keepIn K (.ref f_kept_tail) = true)
    (a_is_rule : PySem.W.nsIn K mainGlobals "is_rule" = some (some (.ref f_is_rule)))
    (l_is_rule : K.lookup f_is_rule = some ⟨oc_is_rule, od_is_rule, .func (PySem.W.fnOf "is_rule" "is_rule" (defArgs s_is_rule) (defBody s_is_rule) (defScope s_is_rule) .none kV_is_rule dc_is_rule pm_is_rule an_is_rule cd_is_rule ct_is_rule), sl_is_rule⟩)
    (e_is_rule : PySem.W.codeIn K cd_is_rule "is_rule" = true)
    (k_is_rule : PySem.W.keepIn K (.ref f_is_rule) = true)
    (a_checked_rules : PySem.W.nsIn K mainGlobals "checked_rules" = some (some (.ref f_checked_rules)))
    (l_checked_rules : K.lookup f_checked_rules = some ⟨oc_checked_rules, od_checked_rules, .func (PySem.W.fnOf "checked_rules" "checked_rules" (defArgs s_checked_rules) (defBody s_checked_rules) (defScope s_checked_rules) .none kV_checked_rules dc_checked_rules pm_checked_rules an_checked_rules cd_checked_rules ct_checked_rules), sl_checked_rules⟩)
    (e_checked_rules : PySem.W.codeIn K cd_checked_rules "checked_rules" = true)
    (k_checked_rules : PySem.W.keepIn K (.ref f_checked_rules) = true)
    (a_Booku_initu : PySem.W.findIn K (.ref C_Book) "__init__" = some (some (.ref f_Booku_initu)))
    (l_Booku_initu : K.lookup f_Booku_initu = some ⟨oc_Booku_initu, od_Booku_initu, .func (PySem.W.fnOf "__init__" "Book.__init__" (defArgs s_Booku_initu) (defBody s_Booku_initu) (defScope s_Booku_initu) .none kV_Booku_initu dc_Booku_initu pm_Booku_initu an_Booku_initu cd_Booku_initu ct_Booku_initu), sl_Booku_initu⟩)
    (e_Booku_initu : PySem.W.codeIn K cd_Booku_initu "Book.__init__" = true)
    (k_Booku_initu : PySem.W.keepIn K (.ref f_Booku_initu) = true)
    (a_Booku_callu : PySem.W.findIn K (.ref C_Book) "__call__" = some (some (.ref f_Booku_callu)))
    (l_Booku_callu : K.lookup f_Booku_callu = some ⟨oc_Booku_callu, od_Booku_callu, .func (PySem.W.fnOf "__call__" "Book.__call__" (defArgs s_Booku_callu) (defBody s_Booku_callu) (defScope s_Booku_callu) .none kV_Booku_callu dc_Booku_callu pm_Booku_callu an_Booku_callu cd_Booku_callu ct_Booku_callu), sl_Booku_callu⟩)
    (e_Booku_callu : PySem.W.codeIn K cd_Booku_callu "Book.__call__" = true)
    (k_Booku_callu : PySem.W.keepIn K (.ref f_Booku_callu) = true)
    (a_rest_of : PySem.W.nsIn K mainGlobals "rest_of" = some (some (.ref f_rest_of)))
    (l_rest_of : K.lookup f_rest_of = some ⟨oc_rest_of, od_rest_of, .func (PySem.W.fnOf "rest_of" "rest_of" (defArgs s_rest_of) (defBody s_rest_of) (defScope s_rest_of) .none kV_rest_of dc_rest_of pm_rest_of an_rest_of cd_rest_of ct_rest_of), sl_rest_of⟩)
    (e_rest_of : PySem.W.codeIn K cd_rest_of "rest_of" = true)
    (k_rest_of : PySem.W.keepIn K (.ref f_rest_of) = true)
    (a_check_settled : PySem.W.nsIn K mainGlobals "check_settled" = some (some (.ref f_check_settled)))
    (l_check_settled : K.lookup f_check_settled = some ⟨oc_check_settled, od_check_settled, .func (PySem.W.fnOf "check_settled" "check_settled" (defArgs s_check_settled) (defBody s_check_settled) (defScope s_check_settled) .none kV_check_settled dc_check_settled pm_check_settled an_check_settled cd_check_settled ct_check_settled), sl_check_settled⟩)
    (e_check_settled : PySem.W.codeIn K cd_check_settled "check_settled" = true)
    (k_check_settled : PySem.W.keepIn K (.ref f_check_settled) = true)
    (a__law_source : PySem.W.nsIn K mainGlobals "_law_source" = some (some (.ref f__law_source)))
    (l__law_source : K.lookup f__law_source = some ⟨oc__law_source, od__law_source, .func (PySem.W.fnOf "_law_source" "_law_source" (defArgs s__law_source) (defBody s__law_source) (defScope s__law_source) .none kV__law_source dc__law_source pm__law_source an__law_source cd__law_source ct__law_source), sl__law_source⟩)
    (e__law_source : PySem.W.codeIn K cd__law_source "_law_source" = true)
    (k__law_source : PySem.W.keepIn K (.ref f__law_source) = true)
    (a__law_pick : PySem.W.nsIn K mainGlobals "_law_pick" = some (some (.ref f__law_pick)))
    (l__law_pick : K.lookup f__law_pick = some ⟨oc__law_pick, od__law_pick, .func (PySem.W.fnOf "_law_pick" "_law_pick" (defArgs s__law_pick) (defBody s__law_pick) (defScope s__law_pick) .none kV__law_pick dc__law_pick pm__law_pick an__law_pick cd__law_pick ct__law_pick), sl__law_pick⟩)
    (e__law_pick : PySem.W.codeIn K cd__law_pick "_law_pick" = true)
    (k__law_pick : PySem.W.keepIn K (.ref f__law_pick) = true)
    (a__law_signs : PySem.W.nsIn K mainGlobals "_law_signs" = some (some (.ref f__law_signs)))
    (l__law_signs : K.lookup f__law_signs = some ⟨oc__law_signs, od__law_signs, .func (PySem.W.fnOf "_law_signs" "_law_signs" (defArgs s__law_signs) (defBody s__law_signs) (defScope s__law_signs) .none kV__law_signs dc__law_signs pm__law_signs an__law_signs cd__law_signs ct__law_signs), sl__law_signs⟩)
    (e__law_signs : PySem.W.codeIn K cd__law_signs "_law_signs" = true)
    (k__law_signs : PySem.W.keepIn K (.ref f__law_signs) = true)
    (a__law_text : PySem.W.nsIn K mainGlobals "_law_text" = some (some (.ref f__law_text)))
    (l__law_text : K.lookup f__law_text = some ⟨oc__law_text, od__law_text, .func (PySem.W.fnOf "_law_text" "_law_text" (defArgs s__law_text) (defBody s__law_text) (defScope s__law_text) .none kV__law_text dc__law_text pm__law_text an__law_text cd__law_text ct__law_text), sl__law_text⟩)
    (e__law_text : PySem.W.codeIn K cd__law_text "_law_text" = true)
    (k__law_text : PySem.W.keepIn K (.ref f__law_text) = true)
    (a__law_key : PySem.W.nsIn K mainGlobals "_law_key" = some (some (.ref f__law_key)))
    (l__law_key : K.lookup f__law_key = some ⟨oc__law_key, od__law_key, .func (PySem.W.fnOf "_law_key" "_law_key" (defArgs s__law_key) (defBody s__law_key) (defScope s__law_key) .none kV__law_key dc__law_key pm__law_key an__law_key cd__law_key ct__law_key), sl__law_key⟩)
    (e__law_key : PySem.W.codeIn K cd__law_key "_law_key" = true)
    (k__law_key : PySem.W.keepIn K (.ref f__law_key) = true)
    (a__law_left : PySem.W.nsIn K mainGlobals "_law_left" = some (some (.ref f__law_left)))
    (l__law_left : K.lookup f__law_left = some ⟨oc__law_left, od__law_left, .func (PySem.W.fnOf "_law_left" "_law_left" (defArgs s__law_left) (defBody s__law_left) (defScope s__law_left) .none kV__law_left dc__law_left pm__law_left an__law_left cd__law_left ct__law_left), sl__law_left⟩)
    (e__law_left : PySem.W.codeIn K cd__law_left "_law_left" = true)
    (k__law_left : PySem.W.keepIn K (.ref f__law_left) = true)
    (a__law_quarrel : PySem.W.nsIn K mainGlobals "_law_quarrel" = some (some (.ref f__law_quarrel)))
    (l__law_quarrel : K.lookup f__law_quarrel = some ⟨oc__law_quarrel, od__law_quarrel, .func (PySem.W.fnOf "_law_quarrel" "_law_quarrel" (defArgs s__law_quarrel) (defBody s__law_quarrel) (defScope s__law_quarrel) .none kV__law_quarrel dc__law_quarrel pm__law_quarrel an__law_quarrel cd__law_quarrel ct__law_quarrel), sl__law_quarrel⟩)
    (e__law_quarrel : PySem.W.codeIn K cd__law_quarrel "_law_quarrel" = true)
    (k__law_quarrel : PySem.W.keepIn K (.ref f__law_quarrel) = true)
    (a__law_rule : PySem.W.nsIn K mainGlobals "_law_rule" = some (some (.ref f__law_rule)))
    (l__law_rule : K.lookup f__law_rule = some ⟨oc__law_rule, od__law_rule, .func (PySem.W.fnOf "_law_rule" "_law_rule" (defArgs s__law_rule) (defBody s__law_rule) (defScope s__law_rule) .none kV__law_rule dc__law_rule pm__law_rule an__law_rule cd__law_rule ct__law_rule), sl__law_rule⟩)
    (e__law_rule : PySem.W.codeIn K cd__law_rule "_law_rule" = true)
    (k__law_rule : PySem.W.keepIn K (.ref f__law_rule) = true)
    (a__law_grown : PySem.W.nsIn K mainGlobals "_law_grown" = some (some (.ref f__law_grown)))
    (l__law_grown : K.lookup f__law_grown = some ⟨oc__law_grown, od__law_grown, .func (PySem.W.fnOf "_law_grown" "_law_grown" (defArgs s__law_grown) (defBody s__law_grown) (defScope s__law_grown) .none kV__law_grown dc__law_grown pm__law_grown an__law_grown cd__law_grown ct__law_grown), sl__law_grown⟩)
    (e__law_grown : PySem.W.codeIn K cd__law_grown "_law_grown" = true)
    (k__law_grown : PySem.W.keepIn K (.ref f__law_grown) = true)
    (a__law_table_rules : PySem.W.nsIn K mainGlobals "_law_table_rules" = some (some (.ref f__law_table_rules)))
    (l__law_table_rules : K.lookup f__law_table_rules = some ⟨oc__law_table_rules, od__law_table_rules, .func (PySem.W.fnOf "_law_table_rules" "_law_table_rules" (defArgs s__law_table_rules) (defBody s__law_table_rules) (defScope s__law_table_rules) .none kV__law_table_rules dc__law_table_rules pm__law_table_rules an__law_table_rules cd__law_table_rules ct__law_table_rules), sl__law_table_rules⟩)
    (e__law_table_rules : PySem.W.codeIn K cd__law_table_rules "_law_table_rules" = true)
    (k__law_table_rules : PySem.W.keepIn K (.ref f__law_table_rules) = true)
    (a__law_book : PySem.W.nsIn K mainGlobals "_law_book" = some (some (.ref f__law_book)))
    (l__law_book : K.lookup f__law_book = some ⟨oc__law_book, od__law_book, .func (PySem.W.fnOf "_law_book" "_law_book" (defArgs s__law_book) (defBody s__law_book) (defScope s__law_book) .none kV__law_book dc__law_book pm__law_book an__law_book cd__law_book ct__law_book), sl__law_book⟩)
    (e__law_book : PySem.W.codeIn K cd__law_book "_law_book" = true)
    (k__law_book : PySem.W.keepIn K (.ref f__law_book) = true)
    (a__law_known : PySem.W.nsIn K mainGlobals "_law_known" = some (some (.ref f__law_known)))
    (l__law_known : K.lookup f__law_known = some ⟨oc__law_known, od__law_known, .func (PySem.W.fnOf "_law_known" "_law_known" (defArgs s__law_known) (defBody s__law_known) (defScope s__law_known) .none kV__law_known dc__law_known pm__law_known an__law_known cd__law_known ct__law_known), sl__law_known⟩)
    (e__law_known : PySem.W.codeIn K cd__law_known "_law_known" = true)
    (k__law_known : PySem.W.keepIn K (.ref f__law_known) = true)
    (a__law_some : PySem.W.nsIn K mainGlobals "_law_some" = some (some (.ref f__law_some)))
    (l__law_some : K.lookup f__law_some = some ⟨oc__law_some, od__law_some, .func (PySem.W.fnOf "_law_some" "_law_some" (defArgs s__law_some) (defBody s__law_some) (defScope s__law_some) .none kV__law_some dc__law_some pm__law_some an__law_some cd__law_some ct__law_some), sl__law_some⟩)
    (e__law_some : PySem.W.codeIn K cd__law_some "_law_some" = true)
    (k__law_some : PySem.W.keepIn K (.ref f__law_some) = true)
    (a_law : PySem.W.nsIn K mainGlobals "law" = some (some (.ref f_law)))
    (l_law : K.lookup f_law = some ⟨oc_law, od_law, .func (PySem.W.fnOf "law" "law" (defArgs s_law) (defBody s_law) (defScope s_law) .none kV_law dc_law pm_law an_law cd_law ct_law), sl_law⟩)
    (e_law : PySem.W.codeIn K cd_law "law" = true)
    (k_law : PySem.W.keepIn K (.ref f_law) = true)
    (a_Booku_equ : PySem.W.findIn K (.ref C_Book) "__eq__" = some (some (.ref f_Booku_equ)))
    (l_Booku_equ : K.lookup f_Booku_equ = some ⟨oc_Booku_equ, od_Booku_equ, .func (PySem.W.fnOf "__eq__" "Book.__eq__" (defArgs s_Booku_equ) (defBody s_Booku_equ) (defScope s_Booku_equ) .none kV_Booku_equ dc_Booku_equ pm_Booku_equ an_Booku_equ cd_Booku_equ ct_Booku_equ), sl_Booku_equ⟩)
    (e_Booku_equ : PySem.W.codeIn K cd_Booku_equ "Book.__eq__" = true)
    (k_Booku_equ : PySem.W.keepIn K (.ref f_Booku_equ) = true)
    (a_Keepsu_initu : PySem.W.findIn K (.ref C_Keeps) "__init__" = some (some (.ref f_Keepsu_initu)))
    (l_Keepsu_initu : K.lookup f_Keepsu_initu = some ⟨oc_Keepsu_initu, od_Keepsu_initu, .func (PySem.W.fnOf "__init__" "Keeps.__init__" (defArgs s_Keepsu_initu) (defBody s_Keepsu_initu) (defScope s_Keepsu_initu) .none kV_Keepsu_initu dc_Keepsu_initu pm_Keepsu_initu an_Keepsu_initu cd_Keepsu_initu ct_Keepsu_initu), sl_Keepsu_initu⟩)
    (e_Keepsu_initu : PySem.W.codeIn K cd_Keepsu_initu "Keeps.__init__" = true)
    (k_Keepsu_initu : PySem.W.keepIn K (.ref f_Keepsu_initu) = true)
    (a_Keepsu_boolu : PySem.W.findIn K (.ref C_Keeps) "__bool__" = some (some (.ref f_Keepsu_boolu)))
    (l_Keepsu_boolu : K.lookup f_Keepsu_boolu = some ⟨oc_Keepsu_boolu, od_Keepsu_boolu, .func (PySem.W.fnOf "__bool__" "Keeps.__bool__" (defArgs s_Keepsu_boolu) (defBody s_Keepsu_boolu) (defScope s_Keepsu_boolu) .none kV_Keepsu_boolu dc_Keepsu_boolu pm_Keepsu_boolu an_Keepsu_boolu cd_Keepsu_boolu ct_Keepsu_boolu), sl_Keepsu_boolu⟩)
    (e_Keepsu_boolu : PySem.W.codeIn K cd_Keepsu_boolu "Keeps.__bool__" = true)
    (k_Keepsu_boolu : PySem.W.keepIn K (.ref f_Keepsu_boolu) = true)
    (a_checked_images : PySem.W.nsIn K mainGlobals "checked_images" = some (some (.ref f_checked_images)))
    (l_checked_images : K.lookup f_checked_images = some ⟨oc_checked_images, od_checked_images, .func (PySem.W.fnOf "checked_images" "checked_images" (defArgs s_checked_images) (defBody s_checked_images) (defScope s_checked_images) .none kV_checked_images dc_checked_images pm_checked_images an_checked_images cd_checked_images ct_checked_images), sl_checked_images⟩)
    (e_checked_images : PySem.W.codeIn K cd_checked_images "checked_images" = true)
    (k_checked_images : PySem.W.keepIn K (.ref f_checked_images) = true)
    (a_image_end : PySem.W.nsIn K mainGlobals "image_end" = some (some (.ref f_image_end)))
    (l_image_end : K.lookup f_image_end = some ⟨oc_image_end, od_image_end, .func (PySem.W.fnOf "image_end" "image_end" (defArgs s_image_end) (defBody s_image_end) (defScope s_image_end) .none kV_image_end dc_image_end pm_image_end an_image_end cd_image_end ct_image_end), sl_image_end⟩)
    (e_image_end : PySem.W.codeIn K cd_image_end "image_end" = true)
    (k_image_end : PySem.W.keepIn K (.ref f_image_end) = true)
    (a_Sendingu_initu : PySem.W.findIn K (.ref C_Sending) "__init__" = some (some (.ref f_Sendingu_initu)))
    (l_Sendingu_initu : K.lookup f_Sendingu_initu = some ⟨oc_Sendingu_initu, od_Sendingu_initu, .func (PySem.W.fnOf "__init__" "Sending.__init__" (defArgs s_Sendingu_initu) (defBody s_Sendingu_initu) (defScope s_Sendingu_initu) .none kV_Sendingu_initu dc_Sendingu_initu pm_Sendingu_initu an_Sendingu_initu cd_Sendingu_initu ct_Sendingu_initu), sl_Sendingu_initu⟩)
    (e_Sendingu_initu : PySem.W.codeIn K cd_Sendingu_initu "Sending.__init__" = true)
    (k_Sendingu_initu : PySem.W.keepIn K (.ref f_Sendingu_initu) = true)
    (a_Sendingu_equ : PySem.W.findIn K (.ref C_Sending) "__eq__" = some (some (.ref f_Sendingu_equ)))
    (l_Sendingu_equ : K.lookup f_Sendingu_equ = some ⟨oc_Sendingu_equ, od_Sendingu_equ, .func (PySem.W.fnOf "__eq__" "Sending.__eq__" (defArgs s_Sendingu_equ) (defBody s_Sendingu_equ) (defScope s_Sendingu_equ) .none kV_Sendingu_equ dc_Sendingu_equ pm_Sendingu_equ an_Sendingu_equ cd_Sendingu_equ ct_Sendingu_equ), sl_Sendingu_equ⟩)
    (e_Sendingu_equ : PySem.W.codeIn K cd_Sendingu_equ "Sending.__eq__" = true)
    (k_Sendingu_equ : PySem.W.keepIn K (.ref f_Sendingu_equ) = true)
    (a_Sendingu_callu : PySem.W.findIn K (.ref C_Sending) "__call__" = some (some (.ref f_Sendingu_callu)))
    (l_Sendingu_callu : K.lookup f_Sendingu_callu = some ⟨oc_Sendingu_callu, od_Sendingu_callu, .func (PySem.W.fnOf "__call__" "Sending.__call__" (defArgs s_Sendingu_callu) (defBody s_Sendingu_callu) (defScope s_Sendingu_callu) .none kV_Sendingu_callu dc_Sendingu_callu pm_Sendingu_callu an_Sendingu_callu cd_Sendingu_callu ct_Sendingu_callu), sl_Sendingu_callu⟩)
    (e_Sendingu_callu : PySem.W.codeIn K cd_Sendingu_callu "Sending.__call__" = true)
    (k_Sendingu_callu : PySem.W.keepIn K (.ref f_Sendingu_callu) = true)
    (a_Sending_keeps : PySem.W.findIn K (.ref C_Sending) "keeps" = some (some (.ref f_Sending_keeps)))
    (l_Sending_keeps : K.lookup f_Sending_keeps = some ⟨oc_Sending_keeps, od_Sending_keeps, .func (PySem.W.fnOf "keeps" "Sending.keeps" (defArgs s_Sending_keeps) (defBody s_Sending_keeps) (defScope s_Sending_keeps) .none kV_Sending_keeps dc_Sending_keeps pm_Sending_keeps an_Sending_keeps cd_Sending_keeps ct_Sending_keeps), sl_Sending_keeps⟩)
    (e_Sending_keeps : PySem.W.codeIn K cd_Sending_keeps "Sending.keeps" = true)
    (k_Sending_keeps : PySem.W.keepIn K (.ref f_Sending_keeps) = true)
    (a__law_image : PySem.W.nsIn K mainGlobals "_law_image" = some (some (.ref f__law_image)))
    (l__law_image : K.lookup f__law_image = some ⟨oc__law_image, od__law_image, .func (PySem.W.fnOf "_law_image" "_law_image" (defArgs s__law_image) (defBody s__law_image) (defScope s__law_image) .none kV__law_image dc__law_image pm__law_image an__law_image cd__law_image ct__law_image), sl__law_image⟩)
    (e__law_image : PySem.W.codeIn K cd__law_image "_law_image" = true)
    (k__law_image : PySem.W.keepIn K (.ref f__law_image) = true)
    (a__law_refused : PySem.W.nsIn K mainGlobals "_law_refused" = some (some (.ref f__law_refused)))
    (l__law_refused : K.lookup f__law_refused = some ⟨oc__law_refused, od__law_refused, .func (PySem.W.fnOf "_law_refused" "_law_refused" (defArgs s__law_refused) (defBody s__law_refused) (defScope s__law_refused) .none kV__law_refused dc__law_refused pm__law_refused an__law_refused cd__law_refused ct__law_refused), sl__law_refused⟩)
    (e__law_refused : PySem.W.codeIn K cd__law_refused "_law_refused" = true)
    (k__law_refused : PySem.W.keepIn K (.ref f__law_refused) = true)
    (g_Book : PySem.W.nsIn K mainGlobals "Book" = some (some (.ref C_Book)))
    (pg_Book : PySem.W.plainGet K C_Book Str.empty = true)
    (hd_Book : PySem.W.hasDictIn K C_Book = true)
    (po_Book : PySem.W.plainOver K C_Book = true)
    (sa_Book : PySem.W.findIn K (.ref C_Book) "__setattr__" = some (some (.builtin "object.__setattr__")))
    (mk_Book : PySem.W.makesIn K C_Book = true)
    (if_Book : PySem.W.isFn K (.ref f_Booku_initu) = true)
    (kc_Book : PySem.W.keepIn K (.ref C_Book) = true)
    (ci_Book : PySem.W.isFn K (.ref f_Booku_callu) = true)
    (cf_Book : PySem.W.fnIn K f_Booku_callu = true)
    (x_Book_signs : PySem.W.findIn K (.ref C_Book) "signs" = some none)
    (x_Book_rules : PySem.W.findIn K (.ref C_Book) "rules" = some none)
    (x_Book__lefts : PySem.W.findIn K (.ref C_Book) "_lefts" = some none)
    (x_Book__longest : PySem.W.findIn K (.ref C_Book) "_longest" = some none)
    (x_Book__quarrel : PySem.W.findIn K (.ref C_Book) "_quarrel" = some none)
    (x_Book__moves : PySem.W.findIn K (.ref C_Book) "_moves" = some none)
    (g_Keeps : PySem.W.nsIn K mainGlobals "Keeps" = some (some (.ref C_Keeps)))
    (pg_Keeps : PySem.W.plainGet K C_Keeps Str.empty = true)
    (hd_Keeps : PySem.W.hasDictIn K C_Keeps = true)
    (po_Keeps : PySem.W.plainOver K C_Keeps = true)
    (sa_Keeps : PySem.W.findIn K (.ref C_Keeps) "__setattr__" = some (some (.builtin "object.__setattr__")))
    (mk_Keeps : PySem.W.makesIn K C_Keeps = true)
    (if_Keeps : PySem.W.isFn K (.ref f_Keepsu_initu) = true)
    (kc_Keeps : PySem.W.keepIn K (.ref C_Keeps) = true)
    (x_Keeps_holds : PySem.W.findIn K (.ref C_Keeps) "holds" = some none)
    (x_Keeps_number : PySem.W.findIn K (.ref C_Keeps) "number" = some none)
    (g_Sending : PySem.W.nsIn K mainGlobals "Sending" = some (some (.ref C_Sending)))
    (pg_Sending : PySem.W.plainGet K C_Sending Str.empty = true)
    (hd_Sending : PySem.W.hasDictIn K C_Sending = true)
    (po_Sending : PySem.W.plainOver K C_Sending = true)
    (sa_Sending : PySem.W.findIn K (.ref C_Sending) "__setattr__" = some (some (.builtin "object.__setattr__")))
    (mk_Sending : PySem.W.makesIn K C_Sending = true)
    (if_Sending : PySem.W.isFn K (.ref f_Sendingu_initu) = true)
    (kc_Sending : PySem.W.keepIn K (.ref C_Sending) = true)
    (ci_Sending : PySem.W.isFn K (.ref f_Sendingu_callu) = true)
    (cf_Sending : PySem.W.fnIn K f_Sendingu_callu = true)
    (x_Sending_one : PySem.W.findIn K (.ref C_Sending) "one" = some none)
    (x_Sending_other : PySem.W.findIn K (.ref C_Sending) "other" = some none)
    (x_Sending_images : PySem.W.findIn K (.ref C_Sending) "images" = some none)
    (ps_Booku_equ : PySem.W.isFn K (.ref f_Booku_equ) = true)
    (ps_Keepsu_boolu : PySem.W.isFn K (.ref f_Keepsu_boolu) = true)
    (ps_Sendingu_equ : PySem.W.isFn K (.ref f_Sendingu_equ) = true)
    (ps_Sending_keeps : PySem.W.isFn K (.ref f_Sending_keeps) = true)
    (nf_Sending : PySem.W.notFirst K C_Sending (.type "tuple") = true)
    (ic1_Book : PySem.W.findIn K (.ref C_Book) "__class__" = some (some (.builtin "object.__class__")))
    (ic2 : PySem.W.specialIn K (.builtin "object.__class__") "__get__" = some (some (.builtin "getset_descriptor.__get__")))
    (ic3 : PySem.W.takesIn K (.builtin "object.__class__") = some true)
    (ic4_Book : PySem.W.mroIn K C_Book (.type "object") = some true)
    (it_Book : PySem.W.kitOne K (.type "tuple") (.ref C_Book) = some false)
    (ic1_Sending : PySem.W.findIn K (.ref C_Sending) "__class__" = some (some (.builtin "object.__class__")))
    (ic4_Sending : PySem.W.mroIn K C_Sending (.type "object") = some true)
    (it_Sending : PySem.W.kitOne K (.type "tuple") (.ref C_Sending) = some false)
    (it_BadImage_WrongItem : PySem.W.kitOne K (.ref C_BadImage) (.ref C_WrongItem) = some true)
    (g_BadImage : PySem.W.nsIn K mainGlobals "BadImage" = some (some (.ref C_BadImage)))
    (g_BadText : PySem.W.nsIn K mainGlobals "BadText" = some (some (.ref C_BadText)))
    (g_WrongItem : PySem.W.nsIn K mainGlobals "WrongItem" = some (some (.ref C_WrongItem)))
    (g_WrongThing : PySem.W.nsIn K mainGlobals "WrongThing" = some (some (.ref C_WrongThing)))
    (oc_BadImage : K.lookup C_BadImage = some (excClassObj xnm_BadImage xq_BadImage C_BadImage xN_BadImage xbs_BadImage xbm_BadImage true xsn_BadImage xsub_BadImage xab_BadImage xcol_BadImage xdd_BadImage xk0_BadImage xk1_BadImage xk2_BadImage xk3_BadImage xk5_BadImage "ValueError.__new__"))
    (ov_BadImage : PySem.HandSPX.refsVE xbm_BadImage = true)
    (os_BadImage : PySem.W.findIn K (.ref C_BadImage) "__setattr__" = some (some (.builtin "object.__setattr__")))
    (ob_BadImage : PySem.W.subIn K (.ref C_BadImage) (.type "BaseException") = some true)
    (oy_BadImage : PySem.W.typeIn K (.ref C_BadImage) = some (.type "type"))
    (ok_BadImage : PySem.W.keepIn K (.ref C_BadImage) = true)
    (xg1_BadImage : PySem.W.findIn K (.ref C_BadImage) "__getattribute__" = some (some (.builtin "BaseException.__getattribute__")))
    (xg2_BadImage : PySem.W.findIn K (.ref C_BadImage) "__getattr__" = some none)
    (xg4_BadImage : PySem.W.hasDictIn K C_BadImage = true)
    (xn_BadImage_place : PySem.W.findIn K (.ref C_BadImage) "place" = some none)
    (oi_BadImage : PySem.W.findIn K (.ref C_BadImage) "__init__" = some (some (.ref f_WrongItemu_initu)))
    (sx1_BadImage : PySem.W.mroIn K C_BadImage (.ref C_WrongItem) = some true)
    (sx2_BadImage : PySem.W.ks_superIn K C_BadImage C_WrongItem "__init__" = some (some (.builtin "ValueError.__init__")))
    (sx3_BadImage : PySem.W.subIn K (.ref C_BadImage) (.type "ValueError") = some true)
    (xm_BadImage_BadImage : PySem.W.exmOne K (.ref C_BadImage) (.ref C_BadImage) = some true)
    (xm_BadImage_BadText : PySem.W.exmOne K (.ref C_BadImage) (.ref C_BadText) = some false)
    (oc_BadText : K.lookup C_BadText = some (excClassObj xnm_BadText xq_BadText C_BadText xN_BadText xbs_BadText xbm_BadText true xsn_BadText xsub_BadText xab_BadText xcol_BadText xdd_BadText xk0_BadText xk1_BadText xk2_BadText xk3_BadText xk5_BadText "ValueError.__new__"))
    (ov_BadText : PySem.HandSPX.refsVE xbm_BadText = true)
    (os_BadText : PySem.W.findIn K (.ref C_BadText) "__setattr__" = some (some (.builtin "object.__setattr__")))
    (ob_BadText : PySem.W.subIn K (.ref C_BadText) (.type "BaseException") = some true)
    (oy_BadText : PySem.W.typeIn K (.ref C_BadText) = some (.type "type"))
    (ok_BadText : PySem.W.keepIn K (.ref C_BadText) = true)
    (xg1_BadText : PySem.W.findIn K (.ref C_BadText) "__getattribute__" = some (some (.builtin "BaseException.__getattribute__")))
    (xg2_BadText : PySem.W.findIn K (.ref C_BadText) "__getattr__" = some none)
    (xg4_BadText : PySem.W.hasDictIn K C_BadText = true)
    (xn_BadText_thing : PySem.W.findIn K (.ref C_BadText) "thing" = some none)
    (oi_BadText : PySem.W.findIn K (.ref C_BadText) "__init__" = some (some (.ref f_WrongThingu_initu)))
    (sx1_BadText : PySem.W.mroIn K C_BadText (.ref C_WrongThing) = some true)
    (sx2_BadText : PySem.W.ks_superIn K C_BadText C_WrongThing "__init__" = some (some (.builtin "ValueError.__init__")))
    (sx3_BadText : PySem.W.subIn K (.ref C_BadText) (.type "ValueError") = some true)
    (xm_BadText_BadImage : PySem.W.exmOne K (.ref C_BadText) (.ref C_BadImage) = some false)
    (xm_BadText_BadText : PySem.W.exmOne K (.ref C_BadText) (.ref C_BadText) = some true)
    (l_WrongItemu_initu : K.lookup f_WrongItemu_initu = some ⟨oc_WrongItemu_initu, od_WrongItemu_initu, .func (PySem.W.fnX "__init__" "WrongItem.__init__" (defArgs s_WrongItemu_initu) (defBody s_WrongItemu_initu) (defScope s_WrongItemu_initu) [("__class__", cc_WrongItemu_initu)] .none kV_WrongItemu_initu dc_WrongItemu_initu pm_WrongItemu_initu an_WrongItemu_initu (.ref cda_WrongItemu_initu) ct_WrongItemu_initu), sl_WrongItemu_initu⟩)
    (e_WrongItemu_initu : PySem.W.codeIn K (.ref cda_WrongItemu_initu) "WrongItem.__init__" = true)
    (ot_WrongItemu_initu : PySem.W.typeIn K (.ref f_WrongItemu_initu) = some (.type "function"))
    (u1_WrongItemu_initu : K.lookup cda_WrongItemu_initu = some ⟨ucl_WrongItemu_initu, udd_WrongItemu_initu, .fields uvs_WrongItemu_initu, ucs_WrongItemu_initu⟩)
    (u2_WrongItemu_initu : uvs_WrongItemu_initu[2]? = some (.str ufl_WrongItemu_initu utf_WrongItemu_initu))
    (u3_WrongItemu_initu : ((l.prog.main.file : Str) == ufl_WrongItemu_initu) = true)
    (u4 : (l.prog.main.scope.names.lookup ("super" : Str)).isSome = false)
    (u5_WrongItemu_initu : K.lookup cc_WrongItemu_initu = some ⟨vcl_WrongItemu_initu, vcd_WrongItemu_initu, .cell (some (.ref C_WrongItem)), vcs_WrongItemu_initu⟩)
    (u6_WrongItemu_initu : K.lookup C_WrongItem = some ⟨wcl_WrongItemu_initu, wcd_WrongItemu_initu, .cls wdt_WrongItemu_initu, wsl_WrongItemu_initu⟩)
    (u7 : PySem.W.nsIn K mainGlobals "super" = some none)
    (u8 : PySem.W.nsIn K PySem.cStatics "thirdparty.any" = some none)
    (l_WrongThingu_initu : K.lookup f_WrongThingu_initu = some ⟨oc_WrongThingu_initu, od_WrongThingu_initu, .func (PySem.W.fnX "__init__" "WrongThing.__init__" (defArgs s_WrongThingu_initu) (defBody s_WrongThingu_initu) (defScope s_WrongThingu_initu) [("__class__", cc_WrongThingu_initu)] .none kV_WrongThingu_initu dc_WrongThingu_initu pm_WrongThingu_initu an_WrongThingu_initu (.ref cda_WrongThingu_initu) ct_WrongThingu_initu), sl_WrongThingu_initu⟩)
    (e_WrongThingu_initu : PySem.W.codeIn K (.ref cda_WrongThingu_initu) "WrongThing.__init__" = true)
    (ot_WrongThingu_initu : PySem.W.typeIn K (.ref f_WrongThingu_initu) = some (.type "function"))
    (u1_WrongThingu_initu : K.lookup cda_WrongThingu_initu = some ⟨ucl_WrongThingu_initu, udd_WrongThingu_initu, .fields uvs_WrongThingu_initu, ucs_WrongThingu_initu⟩)
    (u2_WrongThingu_initu : uvs_WrongThingu_initu[2]? = some (.str ufl_WrongThingu_initu utf_WrongThingu_initu))
    (u3_WrongThingu_initu : ((l.prog.main.file : Str) == ufl_WrongThingu_initu) = true)
    (u5_WrongThingu_initu : K.lookup cc_WrongThingu_initu = some ⟨vcl_WrongThingu_initu, vcd_WrongThingu_initu, .cell (some (.ref C_WrongThing)), vcs_WrongThingu_initu⟩)
    (u6_WrongThingu_initu : K.lookup C_WrongThing = some ⟨wcl_WrongThingu_initu, wcd_WrongThingu_initu, .cls wdt_WrongThingu_initu, wsl_WrongThingu_initu⟩)
    : ∃ fd : FuncData, (∀ (s : Shared) (u : Value), BindsTo s fd ⟨[u], []⟩ [("script", u)]) ∧ ∀ base : Heap, K.In base → base.Ns mainGlobals mg → FnG l.prog w K mg base CX0 7 fa fd ["script"] (spF K S_law) := by
  obtain ⟨a, T, e, b⟩ := tx_mk (P := l.prog) X G n_abs n_any n_bool n_int n_isinstance n_len n_list n_max n_min n_range n_repr n_str n_tuple c_LETTERS c_LONGEST_TEXT c_MOST_RULES c_LONGEST_LEFT a_is_listed l_is_listed e_is_listed k_is_listed a_is_signs l_is_signs e_is_signs k_is_signs a_check_signs l_check_signs e_check_signs k_check_signs a_is_text l_is_text e_is_text k_is_text a_check_text l_check_text e_check_text k_check_text a_text_key l_text_key e_text_key k_text_key a_first_rules l_first_rules e_first_rules k_first_rules a_longest_left l_longest_left e_longest_left k_longest_left a_used_at_end l_used_at_end e_used_at_end k_used_at_end a_left_over l_left_over e_left_over k_left_over a_overlap_rows l_overlap_rows e_overlap_rows k_overlap_rows a_both_results l_both_results e_both_results k_both_results a_quarrel_of l_quarrel_of e_quarrel_of k_quarrel_of a_end_moves l_end_moves e_end_moves k_end_moves a_kept_tail l_kept_tail e_kept_tail k_kept_tail a_is_rule l_is_rule e_is_rule k_is_rule a_checked_rules l_checked_rules e_checked_rules k_checked_rules a_Booku_initu l_Booku_initu e_Booku_initu k_Booku_initu a_Booku_callu l_Booku_callu e_Booku_callu k_Booku_callu a_rest_of l_rest_of e_rest_of k_rest_of a_check_settled l_check_settled e_check_settled k_check_settled a__law_source l__law_source e__law_source k__law_source a__law_pick l__law_pick e__law_pick k__law_pick a__law_signs l__law_signs e__law_signs k__law_signs a__law_text l__law_text e__law_text k__law_text a__law_key l__law_key e__law_key k__law_key a__law_left l__law_left e__law_left k__law_left a__law_quarrel l__law_quarrel e__law_quarrel k__law_quarrel a__law_rule l__law_rule e__law_rule k__law_rule a__law_grown l__law_grown e__law_grown k__law_grown a__law_table_rules l__law_table_rules e__law_table_rules k__law_table_rules a__law_book l__law_book e__law_book k__law_book a__law_known l__law_known e__law_known k__law_known a__law_some l__law_some e__law_some k__law_some a_law l_law e_law k_law a_Booku_equ l_Booku_equ e_Booku_equ k_Booku_equ a_Keepsu_initu l_Keepsu_initu e_Keepsu_initu k_Keepsu_initu a_Keepsu_boolu l_Keepsu_boolu e_Keepsu_boolu k_Keepsu_boolu a_checked_images l_checked_images e_checked_images k_checked_images a_image_end l_image_end e_image_end k_image_end a_Sendingu_initu l_Sendingu_initu e_Sendingu_initu k_Sendingu_initu a_Sendingu_equ l_Sendingu_equ e_Sendingu_equ k_Sendingu_equ a_Sendingu_callu l_Sendingu_callu e_Sendingu_callu k_Sendingu_callu a_Sending_keeps l_Sending_keeps e_Sending_keeps k_Sending_keeps a__law_image l__law_image e__law_image k__law_image a__law_refused l__law_refused e__law_refused k__law_refused g_Book pg_Book hd_Book po_Book sa_Book mk_Book if_Book kc_Book ci_Book cf_Book x_Book_signs x_Book_rules x_Book__lefts x_Book__longest x_Book__quarrel x_Book__moves g_Keeps pg_Keeps hd_Keeps po_Keeps sa_Keeps mk_Keeps if_Keeps kc_Keeps x_Keeps_holds x_Keeps_number g_Sending pg_Sending hd_Sending po_Sending sa_Sending mk_Sending if_Sending kc_Sending ci_Sending cf_Sending x_Sending_one x_Sending_other x_Sending_images ps_Booku_equ ps_Keepsu_boolu ps_Sendingu_equ ps_Sending_keeps nf_Sending ic1_Book ic2 ic3 ic4_Book it_Book ic1_Sending ic4_Sending it_Sending it_BadImage_WrongItem g_BadImage g_BadText g_WrongItem g_WrongThing oc_BadImage ov_BadImage os_BadImage ob_BadImage oy_BadImage ok_BadImage xg1_BadImage xg2_BadImage xg4_BadImage xn_BadImage_place oi_BadImage sx1_BadImage sx2_BadImage sx3_BadImage xm_BadImage_BadImage xm_BadImage_BadText oc_BadText ov_BadText os_BadText ob_BadText oy_BadText ok_BadText xg1_BadText xg2_BadText xg4_BadText xn_BadText_thing oi_BadText sx1_BadText sx2_BadText sx3_BadText xm_BadText_BadImage xm_BadText_BadText l_WrongItemu_initu e_WrongItemu_initu ot_WrongItemu_initu u1_WrongItemu_initu u2_WrongItemu_initu u3_WrongItemu_initu u4 u5_WrongItemu_initu u6_WrongItemu_initu u7 u8 l_WrongThingu_initu e_WrongThingu_initu ot_WrongThingu_initu u1_WrongThingu_initu u2_WrongThingu_initu u3_WrongThingu_initu u5_WrongThingu_initu u6_WrongThingu_initu
  have e2 := hfa.symm.trans T.g_law
  cases e2
  exact ⟨a.d_law, b, fun base _ _ => ok_law T⟩
end
end K60
open PySem PySem.W in
theorem K60.walk {l : PySem.W.OpenLaw} {q : Program} {loose : List Str} {XP : (Str → Option Value) → Heap → Prop} {YP : World → Heap → Prop} {d : DefRec} {K : Params → PySem.W.Frag} (hn : l.most = some 63) (hdf : d.params.defaults = [])
    (hY : ∀ (w : World) (h : Heap), YP w h → (K w.params).In h)
    (F : ∀ (w : World) (mg : Str → Option Value) (fa : Addr) (h : Heap), (K w.params).In h → h.Ns mainGlobals mg → mg d.name = some (.ref fa) →
      ∃ fd : FuncData, (∀ (s : Shared) (u : Value), BindsTo s fd ⟨[u], []⟩ [("script", u)]) ∧ ∀ base : Heap, (K w.params).In base → base.Ns mainGlobals mg → BV.FnG l.prog w (K w.params) mg base L2.CX0 7 fa fd ["script"] (BV.spF (K w.params) K60.S_law)) :
    PySem.W.WalkO q loose XP YP l.row.toRowW d [] (fun f vs => PySem.call f vs) :=
  BV.walk_ofG (n := 63) (k := 7) (x := "script") (sp := fun w => BV.spF (K w.params) K60.S_law) hn (by decide) hdf ⟨rfl, by decide, by decide⟩ hY F (fun w H a ns hl hb _ hS => ⟨fun _ => False, [.scr ns], fun d => d = .bl true, fun _ z => z.elim, .cons (.scr (BV.ex_l (fun b o e => BV.hid_some.mpr ⟨fun z => z, e⟩) hS)) .nil, ⟨ns, rfl, hl, hb, rfl⟩, fun v H' d _ r e => by subst e; cases r; rfl⟩)
open PySem PySem.W PyProof.Rows in
set_option maxRecDepth 100000 in
set_option maxHeartbeats 0 in
theorem PySem.Challenge.cw_dwindlewise_k60_whole_sendings_keep_holds : PySem.Challenge.rw_dwindlewise_k60_whole_sendings_keep.Holds := by
  w_on; o_law; k_head; (case hw => w_witness2)
  k_fill
  refine K60.walk (l := PySem.Challenge.rw_dwindlewise_k60_whole_sendings_keep) rfl rfl (fun w h Y => PySem.W.kIn_of Y) ?F
  case F =>
    intro w mg fa h KX G hmg
    refine' K60.law_mk KX G hmg ?q_n_abs ?q_n_any ?q_n_bool ?q_n_int ?q_n_isinstance ?q_n_len ?q_n_list ?q_n_max ?q_n_min ?q_n_range ?q_n_repr ?q_n_str ?q_n_tuple ?q_c_LETTERS ?q_c_LONGEST_TEXT ?q_c_MOST_RULES ?q_c_LONGEST_LEFT ?q_a_is_listed ?q_l_is_listed ?q_e_is_listed ?q_k_is_listed ?q_a_is_signs ?q_l_is_signs ?q_e_is_signs ?q_k_is_signs ?q_a_check_signs ?q_l_check_signs ?q_e_check_signs ?q_k_check_signs ?q_a_is_text ?q_l_is_text ?q_e_is_text ?q_k_is_text ?q_a_check_text ?q_l_check_text ?q_e_check_text ?q_k_check_text ?q_a_text_key ?q_l_text_key ?q_e_text_key ?q_k_text_key ?q_a_first_rules ?q_l_first_rules ?q_e_first_rules ?q_k_first_rules ?q_a_longest_left ?q_l_longest_left ?q_e_longest_left ?q_k_longest_left ?q_a_used_at_end ?q_l_used_at_end ?q_e_used_at_end ?q_k_used_at_end ?q_a_left_over ?q_l_left_over ?q_e_left_over ?q_k_left_over ?q_a_overlap_rows ?q_l_overlap_rows ?q_e_overlap_rows ?q_k_overlap_rows ?q_a_both_results ?q_l_both_results ?q_e_both_results ?q_k_both_results ?q_a_quarrel_of ?q_l_quarrel_of ?q_e_quarrel_of ?q_k_quarrel_of ?q_a_end_moves ?q_l_end_moves ?q_e_end_moves ?q_k_end_moves ?q_a_kept_tail ?q_l_kept_tail ?q_e_kept_tail ?q_k_kept_tail ?q_a_is_rule ?q_l_is_rule ?q_e_is_rule ?q_k_is_rule ?q_a_checked_rules ?q_l_checked_rules ?q_e_checked_rules ?q_k_checked_rules ?q_a_Booku_initu ?q_l_Booku_initu ?q_e_Booku_initu ?q_k_Booku_initu ?q_a_Booku_callu ?q_l_Booku_callu ?q_e_Booku_callu ?q_k_Booku_callu ?q_a_rest_of ?q_l_rest_of ?q_e_rest_of ?q_k_rest_of ?q_a_check_settled ?q_l_check_settled ?q_e_check_settled ?q_k_check_settled ?q_a__law_source ?q_l__law_source ?q_e__law_source ?q_k__law_source ?q_a__law_pick ?q_l__law_pick ?q_e__law_pick ?q_k__law_pick ?q_a__law_signs ?q_l__law_signs ?q_e__law_signs ?q_k__law_signs ?q_a__law_text ?q_l__law_text ?q_e__law_text ?q_k__law_text ?q_a__law_key ?q_l__law_key ?q_e__law_key ?q_k__law_key ?q_a__law_left ?q_l__law_left ?q_e__law_left ?q_k__law_left ?q_a__law_quarrel ?q_l__law_quarrel ?q_e__law_quarrel ?q_k__law_quarrel ?q_a__law_rule ?q_l__law_rule ?q_e__law_rule ?q_k__law_rule ?q_a__law_grown ?q_l__law_grown ?q_e__law_grown ?q_k__law_grown ?q_a__law_table_rules ?q_l__law_table_rules ?q_e__law_table_rules ?q_k__law_table_rules ?q_a__law_book ?q_l__law_book ?q_e__law_book ?q_k__law_book ?q_a__law_known ?q_l__law_known ?q_e__law_known ?q_k__law_known ?q_a__law_some ?q_l__law_some ?q_e__law_some ?q_k__law_some ?q_a_law ?q_l_law ?q_e_law ?q_k_law ?q_a_Booku_equ ?q_l_Booku_equ ?q_e_Booku_equ ?q_k_Booku_equ ?q_a_Keepsu_initu ?q_l_Keepsu_initu ?q_e_Keepsu_initu ?q_k_Keepsu_initu ?q_a_Keepsu_boolu ?q_l_Keepsu_boolu ?q_e_Keepsu_boolu ?q_k_Keepsu_boolu ?q_a_checked_images ?q_l_checked_images ?q_e_checked_images ?q_k_checked_images ?q_a_image_end ?q_l_image_end ?q_e_image_end ?q_k_image_end ?q_a_Sendingu_initu ?q_l_Sendingu_initu ?q_e_Sendingu_initu ?q_k_Sendingu_initu ?q_a_Sendingu_equ ?q_l_Sendingu_equ ?q_e_Sendingu_equ ?q_k_Sendingu_equ ?q_a_Sendingu_callu ?q_l_Sendingu_callu ?q_e_Sendingu_callu ?q_k_Sendingu_callu ?q_a_Sending_keeps ?q_l_Sending_keeps ?q_e_Sending_keeps ?q_k_Sending_keeps ?q_a__law_image ?q_l__law_image ?q_e__law_image ?q_k__law_image ?q_a__law_refused ?q_l__law_refused ?q_e__law_refused ?q_k__law_refused ?q_g_Book ?q_pg_Book ?q_hd_Book ?q_po_Book ?q_sa_Book ?q_mk_Book ?q_if_Book ?q_kc_Book ?q_ci_Book ?q_cf_Book ?q_x_Book_signs ?q_x_Book_rules ?q_x_Book__lefts ?q_x_Book__longest ?q_x_Book__quarrel ?q_x_Book__moves ?q_g_Keeps ?q_pg_Keeps ?q_hd_Keeps ?q_po_Keeps ?q_sa_Keeps ?q_mk_Keeps ?q_if_Keeps ?q_kc_Keeps ?q_x_Keeps_holds ?q_x_Keeps_number ?q_g_Sending ?q_pg_Sending ?q_hd_Sending ?q_po_Sending ?q_sa_Sending ?q_mk_Sending ?q_if_Sending ?q_kc_Sending ?q_ci_Sending ?q_cf_Sending ?q_x_Sending_one ?q_x_Sending_other ?q_x_Sending_images ?q_ps_Booku_equ ?q_ps_Keepsu_boolu ?q_ps_Sendingu_equ ?q_ps_Sending_keeps ?q_nf_Sending ?q_ic1_Book ?q_ic2 ?q_ic3 ?q_ic4_Book ?q_it_Book ?q_ic1_Sending ?q_ic4_Sending ?q_it_Sending ?q_it_BadImage_WrongItem ?q_g_BadImage ?q_g_BadText ?q_g_WrongItem ?q_g_WrongThing ?q_oc_BadImage ?q_ov_BadImage ?q_os_BadImage ?q_ob_BadImage ?q_oy_BadImage ?q_ok_BadImage ?q_xg1_BadImage ?q_xg2_BadImage ?q_xg4_BadImage ?q_xn_BadImage_place ?q_oi_BadImage ?q_sx1_BadImage ?q_sx2_BadImage ?q_sx3_BadImage ?q_xm_BadImage_BadImage ?q_xm_BadImage_BadText ?q_oc_BadText ?q_ov_BadText ?q_os_BadText ?q_ob_BadText ?q_oy_BadText ?q_ok_BadText ?q_xg1_BadText ?q_xg2_BadText ?q_xg4_BadText ?q_xn_BadText_thing ?q_oi_BadText ?q_sx1_BadText ?q_sx2_BadText ?q_sx3_BadText ?q_xm_BadText_BadImage ?q_xm_BadText_BadText ?q_l_WrongItemu_initu ?q_e_WrongItemu_initu ?q_ot_WrongItemu_initu ?q_u1_WrongItemu_initu ?q_u2_WrongItemu_initu ?q_u3_WrongItemu_initu ?q_u4 ?q_u5_WrongItemu_initu ?q_u6_WrongItemu_initu ?q_u7 ?q_u8 ?q_l_WrongThingu_initu ?q_e_WrongThingu_initu ?q_ot_WrongThingu_initu ?q_u1_WrongThingu_initu ?q_u2_WrongThingu_initu ?q_u3_WrongThingu_initu ?q_u5_WrongThingu_initu ?q_u6_WrongThingu_initu
    (case q_g_Book => k_is)
    (case q_g_Keeps => k_is)
    (case q_g_Sending => k_is)
    (case q_g_BadImage => k_is)
    (case q_g_BadText => k_is)
    (case q_g_WrongItem => k_is)
    (case q_g_WrongThing => k_is)
    (case q_n_abs => k_is)
    (case q_n_any => k_is)
    (case q_n_bool => k_is)
    (case q_n_int => k_is)
    (case q_n_isinstance => k_is)
    (case q_n_len => k_is)
    (case q_n_list => k_is)
    (case q_n_max => k_is)
    (case q_n_min => k_is)
    (case q_n_range => k_is)
    (case q_n_repr => k_is)
    (case q_n_str => k_is)
    (case q_n_tuple => k_is)
    (case q_c_LETTERS => k_is)
    (case q_c_LONGEST_TEXT => k_is)
    (case q_c_MOST_RULES => k_is)
    (case q_c_LONGEST_LEFT => k_is)
    (case q_a_is_listed => k_is)
    (case q_l_is_listed => k_is)
    (case q_e_is_listed => k_is)
    (case q_k_is_listed => k_is)
    (case q_a_is_signs => k_is)
    (case q_l_is_signs => k_is)
    (case q_e_is_signs => k_is)
    (case q_k_is_signs => k_is)
    (case q_a_check_signs => k_is)
    (case q_l_check_signs => k_is)
    (case q_e_check_signs => k_is)
    (case q_k_check_signs => k_is)
    (case q_a_is_text => k_is)
    (case q_l_is_text => k_is)
    (case q_e_is_text => k_is)
    (case q_k_is_text => k_is)
    (case q_a_check_text => k_is)
    (case q_l_check_text => k_is)
    (case q_e_check_text => k_is)
    (case q_k_check_text => k_is)
    (case q_a_text_key => k_is)
    (case q_l_text_key => k_is)
    (case q_e_text_key => k_is)
    (case q_k_text_key => k_is)
    (case q_a_first_rules => k_is)
    (case q_l_first_rules => k_is)
    (case q_e_first_rules => k_is)
    (case q_k_first_rules => k_is)
    (case q_a_longest_left => k_is)
    (case q_l_longest_left => k_is)
    (case q_e_longest_left => k_is)
    (case q_k_longest_left => k_is)
    (case q_a_used_at_end => k_is)
    (case q_l_used_at_end => k_is)
    (case q_e_used_at_end => k_is)
    (case q_k_used_at_end => k_is)
    (case q_a_left_over => k_is)
    (case q_l_left_over => k_is)
    (case q_e_left_over => k_is)
    (case q_k_left_over => k_is)
    (case q_a_overlap_rows => k_is)
    (case q_l_overlap_rows => k_is)
    (case q_e_overlap_rows => k_is)
    (case q_k_overlap_rows => k_is)
    (case q_a_both_results => k_is)
    (case q_l_both_results => k_is)
    (case q_e_both_results => k_is)
    (case q_k_both_results => k_is)
    (case q_a_quarrel_of => k_is)
    (case q_l_quarrel_of => k_is)
    (case q_e_quarrel_of => k_is)
    (case q_k_quarrel_of => k_is)
    (case q_a_end_moves => k_is)
    (case q_l_end_moves => k_is)
    (case q_e_end_moves => k_is)
    (case q_k_end_moves => k_is)
    (case q_a_kept_tail => k_is)
    (case q_l_kept_tail => k_is)
    (case q_e_kept_tail => k_is)
    (case q_k_kept_tail => k_is)
    (case q_a_is_rule => k_is)
    (case q_l_is_rule => k_is)
    (case q_e_is_rule => k_is)
    (case q_k_is_rule => k_is)
    (case q_a_checked_rules => k_is)
    (case q_l_checked_rules => k_is)
    (case q_e_checked_rules => k_is)
    (case q_k_checked_rules => k_is)
    (case q_a_Booku_initu => k_is)
    (case q_l_Booku_initu => k_is)
    (case q_e_Booku_initu => k_is)
    (case q_k_Booku_initu => k_is)
    (case q_a_Booku_callu => k_is)
    (case q_l_Booku_callu => k_is)
    (case q_e_Booku_callu => k_is)
    (case q_k_Booku_callu => k_is)
    (case q_a_rest_of => k_is)
    (case q_l_rest_of => k_is)
    (case q_e_rest_of => k_is)
    (case q_k_rest_of => k_is)
    (case q_a_check_settled => k_is)
    (case q_l_check_settled => k_is)
    (case q_e_check_settled => k_is)
    (case q_k_check_settled => k_is)
    (case q_a__law_source => k_is)
    (case q_l__law_source => k_is)
    (case q_e__law_source => k_is)
    (case q_k__law_source => k_is)
    (case q_a__law_pick => k_is)
    (case q_l__law_pick => k_is)
    (case q_e__law_pick => k_is)
    (case q_k__law_pick => k_is)
    (case q_a__law_signs => k_is)
    (case q_l__law_signs => k_is)
    (case q_e__law_signs => k_is)
    (case q_k__law_signs => k_is)
    (case q_a__law_text => k_is)
    (case q_l__law_text => k_is)
    (case q_e__law_text => k_is)
    (case q_k__law_text => k_is)
    (case q_a__law_key => k_is)
    (case q_l__law_key => k_is)
    (case q_e__law_key => k_is)
    (case q_k__law_key => k_is)
    (case q_a__law_left => k_is)
    (case q_l__law_left => k_is)
    (case q_e__law_left => k_is)
    (case q_k__law_left => k_is)
    (case q_a__law_quarrel => k_is)
    (case q_l__law_quarrel => k_is)
    (case q_e__law_quarrel => k_is)
    (case q_k__law_quarrel => k_is)
    (case q_a__law_rule => k_is)
    (case q_l__law_rule => k_is)
    (case q_e__law_rule => k_is)
    (case q_k__law_rule => k_is)
    (case q_a__law_grown => k_is)
    (case q_l__law_grown => k_is)
    (case q_e__law_grown => k_is)
    (case q_k__law_grown => k_is)
    (case q_a__law_table_rules => k_is)
    (case q_l__law_table_rules => k_is)
    (case q_e__law_table_rules => k_is)
    (case q_k__law_table_rules => k_is)
    (case q_a__law_book => k_is)
    (case q_l__law_book => k_is)
    (case q_e__law_book => k_is)
    (case q_k__law_book => k_is)
    (case q_a__law_known => k_is)
    (case q_l__law_known => k_is)
    (case q_e__law_known => k_is)
    (case q_k__law_known => k_is)
    (case q_a__law_some => k_is)
    (case q_l__law_some => k_is)
    (case q_e__law_some => k_is)
    (case q_k__law_some => k_is)
    (case q_a_law => k_is)
    (case q_l_law => k_is)
    (case q_e_law => k_is)
    (case q_k_law => k_is)
    (case q_a_Booku_equ => k_is)
    (case q_l_Booku_equ => k_is)
    (case q_e_Booku_equ => k_is)
    (case q_k_Booku_equ => k_is)
    (case q_a_Keepsu_initu => k_is)
    (case q_l_Keepsu_initu => k_is)
    (case q_e_Keepsu_initu => k_is)
    (case q_k_Keepsu_initu => k_is)
    (case q_a_Keepsu_boolu => k_is)
    (case q_l_Keepsu_boolu => k_is)
    (case q_e_Keepsu_boolu => k_is)
    (case q_k_Keepsu_boolu => k_is)
    (case q_a_checked_images => k_is)
    (case q_l_checked_images => k_is)
    (case q_e_checked_images => k_is)
    (case q_k_checked_images => k_is)
    (case q_a_image_end => k_is)
    (case q_l_image_end => k_is)
    (case q_e_image_end => k_is)
    (case q_k_image_end => k_is)
    (case q_a_Sendingu_initu => k_is)
    (case q_l_Sendingu_initu => k_is)
    (case q_e_Sendingu_initu => k_is)
    (case q_k_Sendingu_initu => k_is)
    (case q_a_Sendingu_equ => k_is)
    (case q_l_Sendingu_equ => k_is)
    (case q_e_Sendingu_equ => k_is)
    (case q_k_Sendingu_equ => k_is)
    (case q_a_Sendingu_callu => k_is)
    (case q_l_Sendingu_callu => k_is)
    (case q_e_Sendingu_callu => k_is)
    (case q_k_Sendingu_callu => k_is)
    (case q_a_Sending_keeps => k_is)
    (case q_l_Sending_keeps => k_is)
    (case q_e_Sending_keeps => k_is)
    (case q_k_Sending_keeps => k_is)
    (case q_a__law_image => k_is)
    (case q_l__law_image => k_is)
    (case q_e__law_image => k_is)
    (case q_k__law_image => k_is)
    (case q_a__law_refused => k_is)
    (case q_l__law_refused => k_is)
    (case q_e__law_refused => k_is)
    (case q_k__law_refused => k_is)
    (case q_pg_Book => k_is)
    (case q_hd_Book => k_is)
    (case q_po_Book => k_is)
    (case q_sa_Book => k_is)
    (case q_mk_Book => k_is)
    (case q_if_Book => k_is)
    (case q_kc_Book => k_is)
    (case q_ci_Book => k_is)
    (case q_cf_Book => k_is)
    (case q_x_Book_signs => k_is)
    (case q_x_Book_rules => k_is)
    (case q_x_Book__lefts => k_is)
    (case q_x_Book__longest => k_is)
    (case q_x_Book__quarrel => k_is)
    (case q_x_Book__moves => k_is)
    (case q_pg_Keeps => k_is)
    (case q_hd_Keeps => k_is)
    (case q_po_Keeps => k_is)
    (case q_sa_Keeps => k_is)
    (case q_mk_Keeps => k_is)
    (case q_if_Keeps => k_is)
    (case q_kc_Keeps => k_is)
    (case q_x_Keeps_holds => k_is)
    (case q_x_Keeps_number => k_is)
    (case q_pg_Sending => k_is)
    (case q_hd_Sending => k_is)
    (case q_po_Sending => k_is)
    (case q_sa_Sending => k_is)
    (case q_mk_Sending => k_is)
    (case q_if_Sending => k_is)
    (case q_kc_Sending => k_is)
    (case q_ci_Sending => k_is)
    (case q_cf_Sending => k_is)
    (case q_x_Sending_one => k_is)
    (case q_x_Sending_other => k_is)
    (case q_x_Sending_images => k_is)
    (case q_ps_Booku_equ => k_is)
    (case q_ps_Keepsu_boolu => k_is)
    (case q_ps_Sendingu_equ => k_is)
    (case q_ps_Sending_keeps => k_is)
    (case q_nf_Sending => k_is)
    (case q_ic1_Book => k_is)
    (case q_ic2 => k_is)
    (case q_ic3 => k_is)
    (case q_ic4_Book => k_is)
    (case q_it_Book => kit_is)
    (case q_ic1_Sending => k_is)
    (case q_ic4_Sending => k_is)
    (case q_it_Sending => kit_is)
    (case q_it_BadImage_WrongItem => kit_is)
    (case q_oc_BadImage => k_is)
    (case q_ov_BadImage => decide +kernel)
    (case q_os_BadImage => k_is)
    (case q_ob_BadImage => k_is)
    (case q_oy_BadImage => k_is)
    (case q_ok_BadImage => k_is)
    (case q_xg1_BadImage => k_is)
    (case q_xg2_BadImage => k_is)
    (case q_xg4_BadImage => k_is)
    (case q_xn_BadImage_place => k_is)
    (case q_oi_BadImage => k_is)
    (case q_sx1_BadImage => k_is)
    (case q_sx2_BadImage => ks_is)
    (case q_sx3_BadImage => k_is)
    (case q_xm_BadImage_BadImage => kts_exm)
    (case q_xm_BadImage_BadText => kts_exm)
    (case q_oc_BadText => k_is)
    (case q_ov_BadText => decide +kernel)
    (case q_os_BadText => k_is)
    (case q_ob_BadText => k_is)
    (case q_oy_BadText => k_is)
    (case q_ok_BadText => k_is)
    (case q_xg1_BadText => k_is)
    (case q_xg2_BadText => k_is)
    (case q_xg4_BadText => k_is)
    (case q_xn_BadText_thing => k_is)
    (case q_oi_BadText => k_is)
    (case q_sx1_BadText => k_is)
    (case q_sx2_BadText => ks_is)
    (case q_sx3_BadText => k_is)
    (case q_xm_BadText_BadImage => kts_exm)
    (case q_xm_BadText_BadText => kts_exm)
    (case q_l_WrongItemu_initu => k_is)
    (case q_e_WrongItemu_initu => k_is)
    (case q_ot_WrongItemu_initu => k_is)
    (case q_u1_WrongItemu_initu => k_is)
    (case q_u2_WrongItemu_initu => exact rfl)
    (case q_u3_WrongItemu_initu => decide +kernel)
    (case q_u4 => exact rfl)
    (case q_u5_WrongItemu_initu => k_is)
    (case q_u6_WrongItemu_initu => k_is)
    (case q_u7 => k_is)
    (case q_u8 => k_is)
    (case q_l_WrongThingu_initu => k_is)
    (case q_e_WrongThingu_initu => k_is)
    (case q_ot_WrongThingu_initu => k_is)
    (case q_u1_WrongThingu_initu => k_is)
    (case q_u2_WrongThingu_initu => exact rfl)
    (case q_u3_WrongThingu_initu => decide +kernel)
    (case q_u5_WrongThingu_initu => k_is)
    (case q_u6_WrongThingu_initu => k_is)
