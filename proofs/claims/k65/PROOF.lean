import PyProof.Rows.All
import Wide.All
import OpenK.AllK
import Wide.FinOn
import HandS.ForMost
import HandS.WideBits
import HandS.IsInst
import HandS.Deep
import HandS.Conv
import HandS.Walk
import KE.LtData
import HandS.Star
import HandS.RaiseMore
import PyProof.StrLawsRepr
import HandS.TupAny
import HandS.Property
import HandS.ExcInit
import HandS.Nested
import HandS.ExcField
import HandS.TryMany
import HandS.WordsExc
import KE.KExcSuper
import HandS.EndBits
import PyProof.ReprRoads
import PyProof.ReprBulk
import HandS.Gcd
import PySem.Challenge.RW_dwindlewise_k65_whole_number_sets_asked
import KE.RegKSuper
import KE.RegKIsAll
import KE.RegKTryMore
set_option Elab.async false
set_option linter.all false
set_option maxRecDepth 100000
section
set_option maxHeartbeats 4000000
/-! By-value layer over the hand layer: data as trees, private lists by slots. -/
namespace BV
open PySem L2

/-! ### data -/
inductive DKey where
  | i (n : Int) | s (w : List Nat)
  deriving DecidableEq
def DKey.toK : DKey → Key
  | .i n => .inl n
  | .s w => .inr ⟨w.toArray⟩
theorem DKey.toK_inj : ∀ {a b : DKey}, a.toK = b.toK → a = b
  | .i n, .i m, h => by cases h; rfl
  | .s w, .s u, h => by
    have h1 := Sum.inr.inj h
    have h2 : w.toArray = u.toArray := congrArg Str.cps h1
    have h3 := congrArg Array.toList h2
    simp at h3
    rw [h3]
  | .i _, .s _, h => by cases h
  | .s _, .i _, h => by cases h
inductive Dat where
  | non | bl (b : Bool) | int (i : Int) | str (w : List Nat)
  | tup (ds : List Dat) | lst (ds : List Dat) | scr (ns : List Int)
  | dk (kvs : List (DKey × Dat)) | dt (kvs : List (List DKey × Dat)) | fk (kvs : List (DKey × Dat))
  | obj (C : Addr) (fs : List (Str × Dat))
  | oth (v : V)

mutual
inductive Rep (K : PySem.W.Frag) (B : Hp) : V → Dat → Prop
  | non : Rep K B .non .non
  | bl (b : Bool) : Rep K B (.bl b) (.bl b)
  | int (i : Int) : Rep K B (.int i) (.int i)
  | str (w : List Nat) : Rep K B (.str ⟨w.toArray⟩) (.str w)
  | tup {a : Addr} {xs : List V} {ds : List Dat} : SqT K B a xs → RepL K B xs ds → Rep K B (.ref a) (.tup ds)
  | lst {a : Addr} {xs : List V} {ds : List Dat} : B a = some (.lst xs) → RepL K B xs ds → Rep K B (.ref a) (.lst ds)
  | scr {a : Addr} {ns : List Int} : SqL K B a (ns.map V.int) → Rep K B (.ref a) (.scr ns)
  | dk {a : Addr} {xs : List (Key × V)} {kvs : List (DKey × Dat)} : B a = some (.dK xs) → RepD K B xs kvs → Rep K B (.ref a) (.dk kvs)
  | dt {a : Addr} {xs : List (List Key × V)} {kvs : List (List DKey × Dat)} : B a = some (.dT xs) → RepT K B xs kvs → Rep K B (.ref a) (.dt kvs)
  | fk {a : Addr} {ob : Obj} {xs : List (Key × V)} {kvs : List (DKey × Dat)} : B a = some (.frz ob (.dK xs)) → RepD K B xs kvs → Rep K B (.ref a) (.fk kvs)
  | obj {a C dx : Addr} {xs : List (Str × V)} {fs : List (Str × Dat)} : B a = some (.ins C dx xs) → RepF K B xs fs → Rep K B (.ref a) (.obj C fs)
  | oth (v : V) : Rep K B v (.oth v)
inductive RepL (K : PySem.W.Frag) (B : Hp) : List V → List Dat → Prop
  | nil : RepL K B [] []
  | cons {v : V} {d : Dat} {xs : List V} {ds : List Dat} : Rep K B v d → RepL K B xs ds → RepL K B (v :: xs) (d :: ds)
inductive RepD (K : PySem.W.Frag) (B : Hp) : List (Key × V) → List (DKey × Dat) → Prop
  | nil : RepD K B [] []
  | cons {k : DKey} {v : V} {d : Dat} {xs : List (Key × V)} {ds : List (DKey × Dat)} : Rep K B v d → RepD K B xs ds → RepD K B ((k.toK, v) :: xs) ((k, d) :: ds)
inductive RepT (K : PySem.W.Frag) (B : Hp) : List (List Key × V) → List (List DKey × Dat) → Prop
  | nil : RepT K B [] []
  | cons {k : List DKey} {v : V} {d : Dat} {xs : List (List Key × V)} {ds : List (List DKey × Dat)} : Rep K B v d → RepT K B xs ds → RepT K B ((k.map DKey.toK, v) :: xs) ((k, d) :: ds)
inductive RepF (K : PySem.W.Frag) (B : Hp) : List (Str × V) → List (Str × Dat) → Prop
  | nil : RepF K B [] []
  | cons {k : Str} {v : V} {d : Dat} {xs : List (Str × V)} {ds : List (Str × Dat)} : Rep K B v d → RepF K B xs ds → RepF K B ((k, v) :: xs) ((k, d) :: ds)
end

def Ex (H H' : Hp) : Prop := ∀ a o, H a = some o → H' a = some o
theorem Ex.refl (H : Hp) : Ex H H := fun _ _ h => h
theorem Ex.trans {H H1 H2 : Hp} (a : Ex H H1) (b : Ex H1 H2) : Ex H H2 := fun x o h => b x o (a x o h)
theorem Ex.new {H : Hp} {p : Addr} {o : HO} (h : H p = none) : Ex H (upd H p o) := fun a u e => by
  rw [upd_ne (ne_of_none e h)]
  exact e
section
variable {K : PySem.W.Frag} {B B' H H' : Hp}
theorem ex_rd {a : Addr} {u : HO} (e : Ex H H') (h : Rd H a u) : Rd H' a u := by
  rcases h with h | ⟨o, h⟩
  · exact Or.inl (e a _ h)
  · exact Or.inr ⟨o, e a _ h⟩
theorem ex_l {a : Addr} {xs : List V} (e : Ex H H') (h : SqL K H a xs) : SqL K H' a xs := by
  rcases h with h | h
  · exact Or.inl (ex_rd e h)
  · exact Or.inr h
theorem ex_t {a : Addr} {xs : List V} (e : Ex H H') (h : SqT K H a xs) : SqT K H' a xs := by
  rcases h with h | h
  · exact Or.inl (ex_rd e h)
  · exact Or.inr h
theorem rep_all (e : Ex B B') : (∀ v d, Rep K B v d → Rep K B' v d) ∧ (∀ v d, RepL K B v d → RepL K B' v d) ∧ (∀ v d, RepD K B v d → RepD K B' v d) ∧ (∀ v d, RepT K B v d → RepT K B' v d) ∧ (∀ v d, RepF K B v d → RepF K B' v d) := by
  refine ⟨fun v d h => ?_, fun v d h => ?_, fun v d h => ?_, fun v d h => ?_, fun v d h => ?_⟩
  · exact Rep.rec (motive_1 := fun v d _ => Rep K B' v d) (motive_2 := fun v d _ => RepL K B' v d) (motive_3 := fun v d _ => RepD K B' v d) (motive_4 := fun v d _ => RepT K B' v d) (motive_5 := fun v d _ => RepF K B' v d)
      .non .bl .int .str (fun s _ i => .tup (ex_t e s) i) (fun s _ i => .lst (e _ _ s) i) (fun s => .scr (ex_l e s)) (fun s _ i => .dk (e _ _ s) i) (fun s _ i => .dt (e _ _ s) i) (fun s _ i => .fk (e _ _ s) i) (fun s _ i => .obj (e _ _ s) i) .oth
      .nil (fun _ _ i j => .cons i j) .nil (fun _ _ i j => .cons i j) .nil (fun _ _ i j => .cons i j) .nil (fun _ _ i j => .cons i j) h
  · exact RepL.rec (motive_1 := fun v d _ => Rep K B' v d) (motive_2 := fun v d _ => RepL K B' v d) (motive_3 := fun v d _ => RepD K B' v d) (motive_4 := fun v d _ => RepT K B' v d) (motive_5 := fun v d _ => RepF K B' v d)
      .non .bl .int .str (fun s _ i => .tup (ex_t e s) i) (fun s _ i => .lst (e _ _ s) i) (fun s => .scr (ex_l e s)) (fun s _ i => .dk (e _ _ s) i) (fun s _ i => .dt (e _ _ s) i) (fun s _ i => .fk (e _ _ s) i) (fun s _ i => .obj (e _ _ s) i) .oth
      .nil (fun _ _ i j => .cons i j) .nil (fun _ _ i j => .cons i j) .nil (fun _ _ i j => .cons i j) .nil (fun _ _ i j => .cons i j) h
  · exact RepD.rec (motive_1 := fun v d _ => Rep K B' v d) (motive_2 := fun v d _ => RepL K B' v d) (motive_3 := fun v d _ => RepD K B' v d) (motive_4 := fun v d _ => RepT K B' v d) (motive_5 := fun v d _ => RepF K B' v d)
      .non .bl .int .str (fun s _ i => .tup (ex_t e s) i) (fun s _ i => .lst (e _ _ s) i) (fun s => .scr (ex_l e s)) (fun s _ i => .dk (e _ _ s) i) (fun s _ i => .dt (e _ _ s) i) (fun s _ i => .fk (e _ _ s) i) (fun s _ i => .obj (e _ _ s) i) .oth
      .nil (fun _ _ i j => .cons i j) .nil (fun _ _ i j => .cons i j) .nil (fun _ _ i j => .cons i j) .nil (fun _ _ i j => .cons i j) h
  · exact RepT.rec (motive_1 := fun v d _ => Rep K B' v d) (motive_2 := fun v d _ => RepL K B' v d) (motive_3 := fun v d _ => RepD K B' v d) (motive_4 := fun v d _ => RepT K B' v d) (motive_5 := fun v d _ => RepF K B' v d)
      .non .bl .int .str (fun s _ i => .tup (ex_t e s) i) (fun s _ i => .lst (e _ _ s) i) (fun s => .scr (ex_l e s)) (fun s _ i => .dk (e _ _ s) i) (fun s _ i => .dt (e _ _ s) i) (fun s _ i => .fk (e _ _ s) i) (fun s _ i => .obj (e _ _ s) i) .oth
      .nil (fun _ _ i j => .cons i j) .nil (fun _ _ i j => .cons i j) .nil (fun _ _ i j => .cons i j) .nil (fun _ _ i j => .cons i j) h
  · exact RepF.rec (motive_1 := fun v d _ => Rep K B' v d) (motive_2 := fun v d _ => RepL K B' v d) (motive_3 := fun v d _ => RepD K B' v d) (motive_4 := fun v d _ => RepT K B' v d) (motive_5 := fun v d _ => RepF K B' v d)
      .non .bl .int .str (fun s _ i => .tup (ex_t e s) i) (fun s _ i => .lst (e _ _ s) i) (fun s => .scr (ex_l e s)) (fun s _ i => .dk (e _ _ s) i) (fun s _ i => .dt (e _ _ s) i) (fun s _ i => .fk (e _ _ s) i) (fun s _ i => .obj (e _ _ s) i) .oth
      .nil (fun _ _ i j => .cons i j) .nil (fun _ _ i j => .cons i j) .nil (fun _ _ i j => .cons i j) .nil (fun _ _ i j => .cons i j) h
theorem Rep.mono {v : V} {d : Dat} (e : Ex B B') (h : Rep K B v d) : Rep K B' v d := (rep_all e).1 _ _ h
theorem RepL.mono {v : List V} {d : List Dat} (e : Ex B B') (h : RepL K B v d) : RepL K B' v d := (rep_all e).2.1 _ _ h
theorem RepD.mono {v : List (Key × V)} {d : List (DKey × Dat)} (e : Ex B B') (h : RepD K B v d) : RepD K B' v d := (rep_all e).2.2.1 _ _ h
theorem RepT.mono {v : List (List Key × V)} {d : List (List DKey × Dat)} (e : Ex B B') (h : RepT K B v d) : RepT K B' v d := (rep_all e).2.2.2.1 _ _ h
theorem RepF.mono {v : List (Str × V)} {d : List (Str × Dat)} (e : Ex B B') (h : RepF K B v d) : RepF K B' v d := (rep_all e).2.2.2.2 _ _ h

/-! ### lists of data -/
theorem RepL.length : ∀ {xs : List V} {ds : List Dat}, RepL K B xs ds → xs.length = ds.length
  | _, _, .nil => rfl
  | _, _, .cons _ t => by rw [List.length_cons, List.length_cons, RepL.length t]
theorem RepL.get : ∀ {xs : List V} {ds : List Dat} {i : Nat} {d : Dat}, RepL K B xs ds → ds[i]? = some d → ∃ v, xs[i]? = some v ∧ Rep K B v d
  | _, _, _, _, .nil, e => by simp at e
  | _, _, 0, _, .cons r _, e => by
    simp at e
    subst e
    exact ⟨_, rfl, r⟩
  | _, _, i + 1, d, .cons _ t, e => by
    obtain ⟨v, h1, h2⟩ := RepL.get (i := i) (d := d) t (by simpa using e)
    exact ⟨v, by simpa using h1, h2⟩
theorem RepL.get' : ∀ {xs : List V} {ds : List Dat} {i : Nat} {v : V}, RepL K B xs ds → xs[i]? = some v → ∃ d, ds[i]? = some d ∧ Rep K B v d
  | _, _, _, _, .nil, e => by simp at e
  | _, _, 0, _, .cons r _, e => by
    simp at e
    subst e
    exact ⟨_, rfl, r⟩
  | _, _, i + 1, d, .cons _ t, e => by
    obtain ⟨v, h1, h2⟩ := RepL.get' (i := i) (v := d) t (by simpa using e)
    exact ⟨v, by simpa using h1, h2⟩
theorem RepL.append : ∀ {xs ys : List V} {ds es : List Dat}, RepL K B xs ds → RepL K B ys es → RepL K B (xs ++ ys) (ds ++ es)
  | _, _, _, _, .nil, s => s
  | _, _, _, _, .cons r t, s => .cons r (RepL.append t s)
theorem RepL.take : ∀ {xs : List V} {ds : List Dat} (n : Nat), RepL K B xs ds → RepL K B (xs.take n) (ds.take n)
  | _, _, 0, _ => .nil
  | _, _, _ + 1, .nil => .nil
  | _, _, n + 1, .cons r t => .cons r (RepL.take n t)
theorem RepL.drop : ∀ {xs : List V} {ds : List Dat} (n : Nat), RepL K B xs ds → RepL K B (xs.drop n) (ds.drop n)
  | _, _, 0, r => r
  | _, _, _ + 1, .nil => .nil
  | _, _, n + 1, .cons r t => RepL.drop n t
theorem RepL.set {x : V} {d : Dat} (r : Rep K B x d) : ∀ {xs : List V} {ds : List Dat} (i : Nat), RepL K B xs ds → RepL K B (xs.set i x) (ds.set i d)
  | _, _, _, .nil => .nil
  | _, _, 0, .cons _ t => .cons r t
  | _, _, i + 1, .cons q t => .cons q (RepL.set r i t)
theorem RepL.one {x : V} {d : Dat} (r : Rep K B x d) : RepL K B [x] [d] := .cons r .nil
theorem RepL.eraseIdx : ∀ {xs : List V} {ds : List Dat} (i : Nat), RepL K B xs ds → RepL K B (xs.eraseIdx i) (ds.eraseIdx i)
  | _, _, _, .nil => .nil
  | _, _, 0, .cons _ t => t
  | _, _, i + 1, .cons q t => .cons q (RepL.eraseIdx i t)
theorem RepL.reverse : ∀ {xs : List V} {ds : List Dat}, RepL K B xs ds → RepL K B xs.reverse ds.reverse
  | _, _, .nil => .nil
  | _, _, .cons r t => by
    rw [List.reverse_cons, List.reverse_cons]
    exact (RepL.reverse t).append (.one r)
theorem RepL.ints : ∀ {xs : List V} {ns : List Int}, RepL K B xs (ns.map Dat.int) → xs = ns.map V.int
  | _, [], .nil => rfl
  | _, n :: ns, .cons r t => by
    cases r with
    | int i => rw [RepL.ints t]; rfl
theorem RepL.ofInts : ∀ (ns : List Int), RepL K B (ns.map V.int) (ns.map Dat.int)
  | [] => .nil
  | n :: ns => .cons (.int n) (RepL.ofInts ns)
theorem RepL.bools : ∀ {xs : List V} {ns : List Bool}, RepL K B xs (ns.map Dat.bl) → xs = ns.map V.bl
  | _, [], .nil => rfl
  | _, n :: ns, .cons r t => by
    cases r with
    | bl i => rw [RepL.bools t]; rfl
theorem RepL.strs : ∀ {xs : List V} {ns : List (List Nat)}, RepL K B xs (ns.map Dat.str) → xs = ns.map (fun w => V.str ⟨w.toArray⟩)
  | _, [], .nil => rfl
  | _, n :: ns, .cons r t => by
    cases r with
    | str i => rw [RepL.strs t]; rfl
theorem RepF.lookup : ∀ {xs : List (Str × V)} {fs : List (Str × Dat)} {f : Str} {d : Dat}, RepF K B xs fs → fs.lookup f = some d → ∃ v, xs.lookup f = some v ∧ Rep K B v d
  | _, _, _, _, .nil, e => by simp at e
  | (k, v) :: xs, (_, d0) :: ds, f, d, .cons r t, e => by
    by_cases h : f == k
    · rw [List.lookup_cons, h] at e
      refine ⟨v, by rw [List.lookup_cons, h], ?_⟩
      cases e
      exact r
    · have h' : (f == k) = false := by simpa using h
      rw [List.lookup_cons, h'] at e
      obtain ⟨u, h1, h2⟩ := RepF.lookup t e
      exact ⟨u, by rw [List.lookup_cons, h']; exact h1, h2⟩
theorem RepF.lookupN : ∀ {xs : List (Str × V)} {fs : List (Str × Dat)} {f : Str}, RepF K B xs fs → fs.lookup f = none → xs.lookup f = none
  | _, _, _, .nil, e => by simp
  | (k, v) :: xs, (_, d0) :: ds, f, .cons r t, e => by
    by_cases h : f == k
    · rw [List.lookup_cons, h] at e
      cases e
    · have h' : (f == k) = false := by simpa using h
      rw [List.lookup_cons, h'] at e ⊢
      exact RepF.lookupN t e
theorem RepF.length : ∀ {xs : List (Str × V)} {fs : List (Str × Dat)}, RepF K B xs fs → xs.length = fs.length
  | _, _, .nil => rfl
  | _, _, .cons _ t => by rw [List.length_cons, List.length_cons, RepF.length t]
def putD (f : Str) (v : Dat) : List (Str × Dat) → List (Str × Dat)
  | [] => [(f, v)]
  | (g, x) :: r => if g = f then (f, v) :: r else (g, x) :: putD f v r
end
end BV

end

section
set_option maxHeartbeats 4000000
namespace BV
open PySem L2

theorem putF_rep {K : PySem.W.Frag} {B : Hp} {f : Str} {v : V} {d : Dat} (r : Rep K B v d) : ∀ {xs : List (Str × V)} {fs : List (Str × Dat)}, RepF K B xs fs → RepF K B (putF f v xs) (putD f d fs)
  | _, _, .nil => .cons r .nil
  | (k, w) :: xs, (_, e) :: ds, .cons q t => by
    show RepF K B (if k = f then (k, v) :: xs else (k, w) :: putF f v xs) (if k = f then (f, d) :: ds else (k, e) :: putD f d ds)
    by_cases h : k = f
    · rw [if_pos h, if_pos h, h]
      exact .cons r t
    · rw [if_neg h, if_neg h]
      exact .cons q (putF_rep r t)

/-! ### views -/
open Classical in
noncomputable def hid (p : Addr → Prop) (H : Hp) : Hp := fun b => if p b then none else H b
theorem hid_some {p : Addr → Prop} {H : Hp} {b : Addr} {o : HO} : hid p H b = some o ↔ ¬ p b ∧ H b = some o := by
  unfold hid
  by_cases h : p b
  · rw [if_pos h]
    constructor
    · intro e
      cases e
    · intro e
      exact absurd h e.1
  · rw [if_neg h]
    exact ⟨fun e => ⟨h, e⟩, fun e => e.2⟩
theorem hid_ex {p q : Addr → Prop} {H H' : Hp} (h : ∀ b o, ¬ p b → H b = some o → ¬ q b ∧ H' b = some o) : Ex (hid p H) (hid q H') := fun b o e =>
  let ⟨e1, e2⟩ := hid_some.mp e
  hid_some.mpr (h b o e1 e2)
theorem hid_le {p : Addr → Prop} {H : Hp} : Ex (hid p H) H := fun b o e => (hid_some.mp e).2

/-! ### slots -/
inductive Slot where
  | no | d (x : Dat) | own (ds : List Dat) | od (kvs : List (DKey × Dat)) | ot (kvs : List (List DKey × Dat)) | src (a : Addr) | ins (a C : Addr) (fs : List (Str × Dat)) | exc (a d C : Addr) (fs : List (Str × Dat))

def SrcAt (H : Hp) (a : Addr) : Prop := ∃ n s c : Int, H a = some (.lst [.int n, .int s, .int c])

/-- a slot's private address -/
def pa : Slot → Option V → Option Addr
  | .own _, some (.ref a) => some a
  | .od _, some (.ref a) => some a
  | .ot _, some (.ref a) => some a
  | .src a, _ => some a
  | .ins a _ _, _ => some a
  | _, _ => none
/-- one in flux -/
def fa : Slot → Option V → Option Addr
  | .src a, _ => some a
  | _, _ => none
theorem fa_pa {s : Slot} {v : Option V} {a : Addr} (h : fa s v = some a) : pa s v = some a := by
  unfold fa at h
  split at h
  · exact h
  · cases h

structure Bc where
  P : Addr → Prop
  X : Addr → Prop
  H0 : Hp

def Pr (ρ : List Slot) (σ : St) (a : Addr) : Prop := ∃ (i : Nat) (s : Slot) (v : Option V), ρ[i]? = some s ∧ σ[i]? = some v ∧ pa s v = some a
def Fr (ρ : List Slot) (σ : St) (a : Addr) : Prop := ∃ (i : Nat) (s : Slot) (v : Option V), ρ[i]? = some s ∧ σ[i]? = some v ∧ fa s v = some a
theorem Fr.pr {ρ : List Slot} {σ : St} {a : Addr} : Fr ρ σ a → Pr ρ σ a := fun ⟨i, s, v, h1, h2, h3⟩ => ⟨i, s, v, h1, h2, fa_pa h3⟩

/-- the view in grade w: true shows own lists too -/
noncomputable def vw (c : Bc) (w : Bool) (ρ : List Slot) (σ : St) (H : Hp) : Hp := hid (fun b => c.P b ∨ (if w = true then Fr ρ σ b else Pr ρ σ b)) H
noncomputable abbrev sv (c : Bc) (ρ : List Slot) (σ : St) (H : Hp) : Hp := vw c false ρ σ H

def SlR (K : PySem.W.Frag) (B H : Hp) : Slot → Option V → Prop
  | .no, _ => True
  | .d x, o => ∃ u, o = some u ∧ Rep K B u x
  | .own ds, o => ∃ a xs, o = some (.ref a) ∧ H a = some (.lst xs) ∧ RepL K B xs ds
  | .od kvs, o => ∃ a xs, o = some (.ref a) ∧ H a = some (.dK xs) ∧ RepD K B xs kvs
  | .ot kvs, o => ∃ a xs, o = some (.ref a) ∧ H a = some (.dT xs) ∧ RepT K B xs kvs
  | .src a, o => o = some (.ref a) ∧ SrcAt H a
  | .ins a C fs, o => ∃ dx xs, o = some (.ref a) ∧ H a = some (.ins C dx xs) ∧ RepF K B xs fs
  | .exc a d _ fs, o => ∃ xs, o = some (.ref a) ∧ B d = some (.xd xs) ∧ RepF K B xs fs

structure Ok0 (K : PySem.W.Frag) (c : Bc) (ρ : List Slot) (σ : St) (H : Hp) : Prop where
  len : ρ.length = σ.length
  sl : ∀ (i : Nat) s v, ρ[i]? = some s → σ[i]? = some v → SlR K (sv c ρ σ H) H s v
  inj : ∀ (i j : Nat) s v s' v' a, ρ[i]? = some s → σ[i]? = some v → pa s v = some a → ρ[j]? = some s' → σ[j]? = some v' → pa s' v' = some a → i = j
  np : ∀ a, Pr ρ σ a → ¬ c.P a
  fr : ∀ b o, ¬ c.X b → c.H0 b = some o → H b = some o
  xs : ∀ a, Pr ρ σ a → c.X a ∨ c.H0 a = none
  pt : ∀ a, c.P a → ∃ o, H a = some o

/-- the written part, what an exception that leaves must meet (its class, its dict, the slots, the heap), and what is told of it -/
structure KB where
  F : PySem.W.Frag
  E : Value → Option Addr → St → Hp → Prop
  RE : Addr → List (Str × Dat) → List Slot → Prop
instance : Coe KB PySem.W.Frag := ⟨KB.F⟩
/-- nothing leaves -/
@[reducible] def KB.of (F : PySem.W.Frag) : KB := ⟨F, fun _ _ _ _ => False, fun _ _ _ => False⟩
def XOk (K : KB) (c : Bc) : Prop := ∀ (C dx : Addr) (ρ : List Slot) (σ : St) (H' : Hp) (xs : List (Str × V)) (fs : List (Str × Dat)), Ok0 K.F c ρ σ H' → sv c ρ σ H' dx = some (.xd xs) → RepF K.F (sv c ρ σ H') xs fs → K.RE C fs ρ → K.E (.ref C) (some dx) σ H'
theorem XOk.of {F : PySem.W.Frag} {c : Bc} : XOk (KB.of F) c := fun _ _ _ _ _ _ _ _ _ _ h => h.elim
structure Ok (K : KB) (c : Bc) (ρ : List Slot) (σ : St) (H : Hp) : Prop extends Ok0 K.F c ρ σ H where
  xo : XOk K c
theorem XOk.tr {K : KB} {c c' : Bc} (x : XOk K c) (h : ∀ ρ σ H, Ok0 K.F c' ρ σ H → Ok0 K.F c ρ σ H) (e : ∀ ρ σ H, Ex (sv c' ρ σ H) (sv c ρ σ H)) : XOk K c' := fun C dx ρ σ H' xs fs o hd rf re =>
  x C dx ρ σ H' xs fs (h ρ σ H' o) (e ρ σ H' dx _ hd) (rf.mono (e ρ σ H')) re

def Le (c : Bc) (ρ : List Slot) (σ : St) (H H2 : Hp) : Prop := ∀ b o, ¬ Fr ρ σ b → H b = some o → H2 b = some o
theorem Le.refl {c : Bc} {ρ : List Slot} {σ : St} {H : Hp} : Le c ρ σ H H := fun _ _ _ h => h
theorem Le.trans {c : Bc} {ρ : List Slot} {σ : St} {H H1 H2 : Hp} (a : Le c ρ σ H H1) (b : Le c ρ σ H1 H2) : Le c ρ σ H H2 := fun x o h2 h => b x o h2 (a x o h2 h)
theorem Ex.le {c : Bc} {ρ : List Slot} {σ : St} {H H2 : Hp} (e : Ex H H2) : Le c ρ σ H H2 := fun b o _ h => e b o h
theorem Le.vw {c : Bc} {w : Bool} {ρ : List Slot} {σ : St} {H H2 : Hp} (l : Le c ρ σ H H2) : Ex (vw c w ρ σ H) (vw c w ρ σ H2) := by
  refine hid_ex fun b o hb e => ⟨hb, l b o (fun z => hb (.inr ?_)) e⟩
  cases w with
  | true => rw [if_pos rfl]; exact z
  | false => rw [if_neg Bool.false_ne_true]; exact z.pr
theorem vw_up {c : Bc} {ρ : List Slot} {σ : St} {H : Hp} : Ex (sv c ρ σ H) (vw c true ρ σ H) :=
  hid_ex fun b o hb e => ⟨fun z => hb (z.imp id fun y => by rw [if_neg Bool.false_ne_true]; rw [if_pos rfl] at y; exact y.pr), e⟩
theorem vw_up2 {c : Bc} {w : Bool} {ρ : List Slot} {σ : St} {H : Hp} : Ex (sv c ρ σ H) (vw c w ρ σ H) := by
  cases w with
  | true => exact vw_up
  | false => exact Ex.refl _
theorem vw_up3 {c : Bc} {w : Bool} {ρ : List Slot} {σ : St} {H : Hp} : Ex (vw c w ρ σ H) (vw c true ρ σ H) := by
  cases w with
  | true => exact Ex.refl _
  | false => exact vw_up
theorem vw_le {c : Bc} {w : Bool} {ρ : List Slot} {σ : St} {H : Hp} : Ex (vw c w ρ σ H) H := hid_le

section
variable {K : KB} {c : Bc} {w : Bool} {ρ : List Slot} {σ : St} {H H2 : Hp}
theorem SlR.tracked {B : Hp} {s : Slot} {v : Option V} {a : Addr} (r : SlR K B H s v) (h : pa s v = some a) : ∃ o, H a = some o ∧ ∀ ob xs, o ≠ .tup xs ∧ o ≠ .frz ob (.tup xs) := by
  cases s with
  | no => unfold pa at h; cases h
  | d x => unfold pa at h; cases h
  | own ds => obtain ⟨b, xs, rfl, e, _⟩ := r; cases h; exact ⟨_, e, fun _ _ => ⟨fun z => (by cases z), fun z => (by cases z)⟩⟩
  | od ds => obtain ⟨b, xs, rfl, e, _⟩ := r; cases h; exact ⟨_, e, fun _ _ => ⟨fun z => (by cases z), fun z => (by cases z)⟩⟩
  | ot ds => obtain ⟨b, xs, rfl, e, _⟩ := r; cases h; exact ⟨_, e, fun _ _ => ⟨fun z => (by cases z), fun z => (by cases z)⟩⟩
  | src b => obtain ⟨rfl, _, _, _, e⟩ := r; cases h; exact ⟨_, e, fun _ _ => ⟨fun z => (by cases z), fun z => (by cases z)⟩⟩
  | ins b C fs => obtain ⟨dx, xs, rfl, e, _⟩ := r; cases h; exact ⟨_, e, fun _ _ => ⟨fun z => (by cases z), fun z => (by cases z)⟩⟩
  | exc a d C fs => unfold pa at h; cases h
theorem Ok.tr (k : Ok K c ρ σ H) {a : Addr} (h : Pr ρ σ a) : ∃ o, H a = some o ∧ ∀ ob xs, o ≠ .tup xs ∧ o ≠ .frz ob (.tup xs) := by
  obtain ⟨i, s, v, h1, h2, h3⟩ := h
  exact (k.sl i s v h1 h2).tracked h3
theorem Ok.get (k : Ok K c ρ σ H) {i : Nat} {s : Slot} (h : ρ[i]? = some s) : ∃ v, σ[i]? = some v ∧ SlR K (sv c ρ σ H) H s v := by
  have hi : i < σ.length := by rw [← k.len]; exact (List.getElem?_eq_some_iff.mp h).1
  exact ⟨σ[i], List.getElem?_eq_getElem hi, k.sl i s _ h (List.getElem?_eq_getElem hi)⟩
/-- the heap grew off what is in flux, whose slots are still held -/
theorem Ok.grow (k : Ok K c ρ σ H) (l : Le c ρ σ H H2) (hf : ∀ (i : Nat) s v, ρ[i]? = some s → σ[i]? = some v → (fa s v).isSome = true → SlR K (sv c ρ σ H2) H2 s v) (fr : ∀ b o, ¬ c.X b → c.H0 b = some o → H2 b = some o)
    (pt : ∀ a, c.P a → ∃ o, H2 a = some o) : Ok K c ρ σ H2 := by
  refine ⟨⟨k.len, fun i s v h1 h2 => ?_, k.inj, k.np, fr, k.xs, pt⟩, k.xo⟩
  by_cases hs : (fa s v).isSome = true
  · exact hf i s v h1 h2 hs
  have q := k.sl i s v h1 h2
  have e := l.vw (w := false)
  have nf : ∀ a, pa s v = some a → ¬ c.P a ∧ ¬ Fr ρ σ a := fun a ha => by
    refine ⟨k.np a ⟨i, s, v, h1, h2, ha⟩, fun ⟨j, s', v', g1, g2, g3⟩ => ?_⟩
    have ij := k.inj i j s v s' v' a h1 h2 ha g1 g2 (fa_pa g3)
    subst ij
    rw [h1] at g1
    rw [h2] at g2
    cases g1
    cases g2
    exact hs (by rw [g3]; rfl)
  cases s with
  | no => trivial
  | d x => obtain ⟨u, e1, r⟩ := q; exact ⟨u, e1, r.mono e⟩
  | own ds =>
    obtain ⟨a, xs, rfl, e1, r⟩ := q
    have n := nf a rfl
    exact ⟨a, xs, rfl, l a _ n.2 e1, r.mono e⟩
  | od ds =>
    obtain ⟨a, xs, rfl, e1, r⟩ := q
    have n := nf a rfl
    exact ⟨a, xs, rfl, l a _ n.2 e1, r.mono e⟩
  | ot ds =>
    obtain ⟨a, xs, rfl, e1, r⟩ := q
    have n := nf a rfl
    exact ⟨a, xs, rfl, l a _ n.2 e1, r.mono e⟩
  | src a => exact absurd rfl hs
  | ins b C fs =>
    obtain ⟨dx, xs, rfl, e1, r⟩ := q
    have n := nf b rfl
    exact ⟨dx, xs, rfl, l b _ n.2 e1, r.mono e⟩
  | exc a d C fs =>
    obtain ⟨xs, rfl, e1, r⟩ := q
    exact ⟨xs, rfl, e d _ e1, r.mono e⟩
/-- everything tracked is as it was -/
theorem Ok.ex (k : Ok K c ρ σ H) (e : Ex H H2) : Ok K c ρ σ H2 := by
  refine k.grow e.le (fun i s v h1 h2 hs => ?_) (fun b o h1 h2 => e b o (k.fr b o h1 h2)) fun a ha => let ⟨o, h⟩ := k.pt a ha; ⟨o, e a o h⟩
  have q := k.sl i s v h1 h2
  cases s with
  | src a => obtain ⟨rfl, n, s, cc, e1⟩ := q; exact ⟨rfl, n, s, cc, e a _ e1⟩
  | no => trivial
  | _ => exact absurd hs (by simp [fa])
theorem Ok.vis (k : Ok K c ρ σ H) {p : Addr} (n : H p = none) : ¬ (c.P p ∨ if w = true then Fr ρ σ p else Pr ρ σ p) := by
  rintro (h | h)
  · obtain ⟨o, e⟩ := k.pt p h
    rw [n] at e
    cases e
  · have h' : Pr ρ σ p := by
      cases w with
      | true => rw [if_pos rfl] at h; exact h.pr
      | false => rw [if_neg Bool.false_ne_true] at h; exact h
    obtain ⟨o, e, _⟩ := k.tr h'
    rw [n] at e
    cases e
theorem Ok.vw_new (k : Ok K c ρ σ H) {p : Addr} {o : HO} (n : H p = none) : vw c w ρ σ (upd H p o) p = some o := hid_some.mpr ⟨k.vis n, upd_same⟩

/-! ### imm: no list within -/
mutual
def imm : Dat → Bool
  | .non => true
  | .bl _ => true
  | .int _ => true
  | .str _ => true
  | .tup ds => immL ds
  | _ => false
def immL : List Dat → Bool
  | [] => true
  | d :: ds => imm d && immL ds
end
theorem immL_all : ∀ {ds : List Dat}, (∀ d ∈ ds, imm d = true) → immL ds = true
  | [], _ => rfl
  | d :: ds, h => by
    unfold immL
    rw [h d List.mem_cons_self, immL_all fun x hx => h x (List.mem_cons_of_mem _ hx)]
    rfl
theorem imm_rep {B B' : Hp} (ht : ∀ a xs, SqT K B a xs → SqT K B' a xs) : (∀ v d, Rep K B v d → imm d = true → Rep K B' v d) := fun v d h =>
  Rep.rec (motive_1 := fun v d _ => imm d = true → Rep K B' v d) (motive_2 := fun v d _ => immL d = true → RepL K B' v d) (motive_3 := fun v d _ => True) (motive_4 := fun v d _ => True) (motive_5 := fun v d _ => True)
    (fun _ => .non) (fun b _ => .bl b) (fun i _ => .int i) (fun x _ => .str x) (fun s _ i hi => .tup (ht _ _ s) (i hi)) (fun s _ i hi => by cases hi) (fun s hi => by cases hi) (fun s _ i hi => by cases hi) (fun s _ i hi => by cases hi) (fun s _ i hi => by cases hi) (fun s _ i hi => by cases hi) (fun _ hi => by cases hi)
    (fun _ => .nil) (fun _ _ i j hi => by
      unfold immL at hi
      rw [Bool.and_eq_true] at hi
      exact .cons (i hi.1) (j hi.2)) trivial (fun _ _ _ _ => trivial) trivial (fun _ _ _ _ => trivial) trivial (fun _ _ _ _ => trivial) h
theorem Ok.imm (k : Ok K c ρ σ H) {v : V} {d : Dat} (r : Rep K (vw c true ρ σ H) v d) (hi : imm d = true) : Rep K (sv c ρ σ H) v d := by
  refine imm_rep (fun a xs h => ?_) v d r hi
  rcases h with h | h
  · refine .inl ?_
    have key : ∀ o, vw c true ρ σ H a = some o → (∃ ob, o = .tup xs ∨ o = .frz ob (.tup xs)) → sv c ρ σ H a = some o := fun o e1 ho => by
      obtain ⟨n1, e2⟩ := hid_some.mp e1
      refine hid_some.mpr ⟨fun z => ?_, e2⟩
      rcases z with z | z
      · exact n1 (.inl z)
      · rw [if_neg Bool.false_ne_true] at z
        obtain ⟨o', e3, n3⟩ := k.tr z
        rw [e2] at e3
        cases e3
        obtain ⟨ob, ho | ho⟩ := ho
        · exact (n3 ob xs).1 ho
        · exact (n3 ob xs).2 ho
    rcases h with h | ⟨ob, h⟩
    · exact .inl (key _ h ⟨⟨.none, none, .plain, #[]⟩, .inl rfl⟩)
    · exact .inr ⟨ob, key _ h ⟨ob, .inr rfl⟩⟩
  · exact .inr h

/-! ### what an expression comes to -/
end
def G (K : KB) (w : Bool) (ρ : List Slot) (te : TE) (R : Dat → Prop) : Prop := ∀ c σ H, Ok K c ρ σ H → ∀ Q : VK, (∀ v H2 d, Ok K c ρ σ H2 → Le c ρ σ H H2 → Rep K (vw c w ρ σ H2) v d → R d → Q v H2) → te σ H Q
def GT (K : KB) (ρ : List Slot) (tt : TT) (R : Bool → Prop) : Prop := ∀ c σ H, Ok K c ρ σ H → ∀ Q : Bool → Hp → Prop, (∀ b H2, Ok K c ρ σ H2 → Le c ρ σ H H2 → R b → Q b H2) → tt σ H Q
def GA (K : KB) (w : Bool) (ρ : List Slot) (ta : TA) (R : List Dat → Prop) : Prop := ∀ c σ H, Ok K c ρ σ H → ∀ Q : List V → Hp → Prop, (∀ vs H2 ds, Ok K c ρ σ H2 → Le c ρ σ H H2 → RepL K (vw c w ρ σ H2) vs ds → R ds → Q vs H2) → ta σ H Q
/-- a new object, for a slot -/
def GN (K : KB) (ρ : List Slot) (te : TE) (R : Slot → Prop) : Prop := ∀ c σ H, Ok K c ρ σ H → ∀ Q : VK, (∀ a H2 s, Ok K c ρ σ H2 → Le c ρ σ H H2 → H a = none → SlR K (hid (fun b => b = a) (sv c ρ σ H2)) H2 s (some (.ref a)) → pa s (some (.ref a)) = some a → R s → Q (.ref a) H2) → te σ H Q
/-- operations on values -/
def Op2 (K : KB) (w1 w2 : Bool) (ρ : List Slot) (r : R2) (x y : Dat) (R : Dat → Prop) : Prop := ∀ c σ H u v, Ok K c ρ σ H → Rep K (vw c w1 ρ σ H) u x → Rep K (vw c w1 ρ σ H) v y → ∀ Q : VK, (∀ z H2 d, Ok K c ρ σ H2 → Le c ρ σ H H2 → Rep K (vw c w2 ρ σ H2) z d → R d → Q z H2) → r u v H Q
def Op1 (K : KB) (w1 w2 : Bool) (ρ : List Slot) (r : V → Hp → VK → Prop) (x : Dat) (R : Dat → Prop) : Prop := ∀ c σ H u, Ok K c ρ σ H → Rep K (vw c w1 ρ σ H) u x → ∀ Q : VK, (∀ z H2 d, Ok K c ρ σ H2 → Le c ρ σ H H2 → Rep K (vw c w2 ρ σ H2) z d → R d → Q z H2) → r u H Q
def OpC (K : KB) (w1 w2 : Bool) (ρ : List Slot) (r : List V → Hp → VK → Prop) (xs : List Dat) (R : Dat → Prop) : Prop := ∀ c σ H us, Ok K c ρ σ H → RepL K (vw c w1 ρ σ H) us xs → ∀ Q : VK, (∀ z H2 d, Ok K c ρ σ H2 → Le c ρ σ H H2 → Rep K (vw c w2 ρ σ H2) z d → R d → Q z H2) → r us H Q
def OpM (K : KB) (w1 w2 : Bool) (ρ : List Slot) (r : V → List V → Hp → VK → Prop) (x : Dat) (xs : List Dat) (R : Dat → Prop) : Prop := ∀ c σ H u us, Ok K c ρ σ H → Rep K (vw c w1 ρ σ H) u x → RepL K (vw c w1 ρ σ H) us xs → ∀ Q : VK, (∀ z H2 d, Ok K c ρ σ H2 → Le c ρ σ H H2 → Rep K (vw c w2 ρ σ H2) z d → R d → Q z H2) → r u us H Q

section
variable {K : KB} {w : Bool} {ρ : List Slot} {ta tb te : TE} {R R' : Dat → Prop}
theorem G.mono (h : G K w ρ te R) (k : ∀ d, R d → R' d) : G K w ρ te R' := fun c σ H o Q q => h c σ H o Q fun v H2 d o2 l r rd => q v H2 d o2 l r (k d rd)
theorem g_weak (h : G K false ρ te R) : G K true ρ te R := fun c σ H o Q q => h c σ H o Q fun v H2 d o2 l r rd => q v H2 d o2 l (r.mono vw_up) rd
theorem g_up (h : G K true ρ te fun d => imm d = true ∧ R d) : G K false ρ te R := fun c σ H o Q q => h c σ H o Q fun v H2 d o2 l r rd => q v H2 d o2 l (o2.imm r rd.1) rd.2
theorem g_var {i : Nat} {d : Dat} (h : ρ[i]? = some (.d d)) (k : R d) : G K w ρ (tVar i) R := fun c σ H o Q q => by
  obtain ⟨v, e, u, rfl, r⟩ := o.get h
  exact ⟨u, e, q u H d o .refl (r.mono vw_up2) k⟩
theorem g_own {i : Nat} {ds : List Dat} (h : ρ[i]? = some (.own ds)) (k : R (.lst ds)) : G K true ρ (tVar i) R := fun c σ H o Q q => by
  obtain ⟨v, e, a, xs, rfl, e1, r⟩ := o.get h
  refine ⟨.ref a, e, q _ H _ o .refl (.lst (hid_some.mpr ⟨?_, e1⟩) (r.mono vw_up)) k⟩
  have hp : Pr ρ σ a := ⟨i, _, _, h, e, rfl⟩
  rintro (z | z)
  · exact o.np a hp z
  · rw [if_pos rfl] at z
    obtain ⟨j, s', v', g1, g2, g3⟩ := z
    have ij := o.inj i j _ _ s' v' a h e rfl g1 g2 (fa_pa g3)
    subst ij
    rw [h] at g1
    rw [e] at g2
    cases g1
    cases g2
    cases g3
theorem g_ownD {i : Nat} {ds : List (DKey × Dat)} (h : ρ[i]? = some (.od ds)) (k : R (.dk ds)) : G K true ρ (tVar i) R := fun c σ H o Q q => by
  obtain ⟨v, e, a, xs, rfl, e1, r⟩ := o.get h
  refine ⟨.ref a, e, q _ H _ o .refl (.dk (hid_some.mpr ⟨?_, e1⟩) (r.mono vw_up)) k⟩
  have hp : Pr ρ σ a := ⟨i, _, _, h, e, rfl⟩
  rintro (z | z)
  · exact o.np a hp z
  · rw [if_pos rfl] at z
    obtain ⟨j, s', v', g1, g2, g3⟩ := z
    have ij := o.inj i j _ _ s' v' a h e rfl g1 g2 (fa_pa g3)
    subst ij
    rw [h] at g1
    rw [e] at g2
    cases g1
    cases g2
    cases g3
theorem g_ownT {i : Nat} {ds : List (List DKey × Dat)} (h : ρ[i]? = some (.ot ds)) (k : R (.dt ds)) : G K true ρ (tVar i) R := fun c σ H o Q q => by
  obtain ⟨v, e, a, xs, rfl, e1, r⟩ := o.get h
  refine ⟨.ref a, e, q _ H _ o .refl (.dt (hid_some.mpr ⟨?_, e1⟩) (r.mono vw_up)) k⟩
  have hp : Pr ρ σ a := ⟨i, _, _, h, e, rfl⟩
  rintro (z | z)
  · exact o.np a hp z
  · rw [if_pos rfl] at z
    obtain ⟨j, s', v', g1, g2, g3⟩ := z
    have ij := o.inj i j _ _ s' v' a h e rfl g1 g2 (fa_pa g3)
    subst ij
    rw [h] at g1
    rw [e] at g2
    cases g1
    cases g2
    cases g3
theorem g_non (k : R .non) : G K w ρ (tC .non) R := fun c σ H o Q q => q _ H _ o .refl .non k
theorem g_bl {b : Bool} (k : R (.bl b)) : G K w ρ (tC (.bl b)) R := fun c σ H o Q q => q _ H _ o .refl (.bl b) k
theorem g_int {i : Int} (k : R (.int i)) : G K w ρ (tC (.int i)) R := fun c σ H o Q q => q _ H _ o .refl (.int i) k
theorem g_str {x : Str} (k : R (.str x.cps.toList)) : G K w ρ (tC (.str x)) R := fun c σ H o Q q => q _ H _ o .refl (by have := Rep.str (K := K) (B := vw c w ρ σ H) x.cps.toList; rw [Array.toArray_toList] at this; exact this) k
theorem g_op {r : R2} (h : G K true ρ ta fun x => G K true ρ tb fun y => Op2 K true w ρ r x y R) : G K w ρ (tOp r ta tb) R := fun c σ H o Q q =>
  h c σ H o _ fun u H1 x o1 l1 r1 h1 => h1 c σ H1 o1 _ fun v H2 y o2 l2 r2 h2 => h2 c σ H2 u v o2 (r1.mono l2.vw) r2 Q fun z H3 d o3 l3 r3 h3 => q z H3 d o3 ((l1.trans l2).trans l3) r3 h3
theorem g_opS {r : R2} (h : G K w ρ ta fun x => G K w ρ tb fun y => Op2 K w w ρ r x y R) : G K w ρ (tOp r ta tb) R := fun c σ H o Q q =>
  h c σ H o _ fun u H1 x o1 l1 r1 h1 => h1 c σ H1 o1 _ fun v H2 y o2 l2 r2 h2 => h2 c σ H2 u v o2 (r1.mono l2.vw) r2 Q fun z H3 d o3 l3 r3 h3 => q z H3 d o3 ((l1.trans l2).trans l3) r3 h3
theorem g_un {r : V → Hp → VK → Prop} (h : G K true ρ ta fun x => Op1 K true w ρ r x R) : G K w ρ (tUn r ta) R := fun c σ H o Q q =>
  h c σ H o _ fun u H1 x o1 l1 r1 h1 => h1 c σ H1 u o1 r1 Q fun z H3 d o3 l3 r3 h3 => q z H3 d o3 (l1.trans l3) r3 h3
theorem ga_nil {RA : List Dat → Prop} (k : RA []) : GA K w ρ tNil RA := fun c σ H o Q q => q _ H _ o .refl .nil k
theorem ga_cons {t : TA} {RA : List Dat → Prop} (h : G K w ρ ta fun x => GA K w ρ t fun xs => RA (x :: xs)) : GA K w ρ (tCons ta t) RA := fun c σ H o Q q =>
  h c σ H o _ fun u H1 x o1 l1 r1 h1 => h1 c σ H1 o1 _ fun v H2 y o2 l2 r2 h2 => q _ H2 _ o2 (l1.trans l2) (.cons (r1.mono l2.vw) r2) h2
theorem g_cb {t : TA} {r : List V → Hp → VK → Prop} (h : GA K true ρ t fun xs => OpC K true w ρ r xs R) : G K w ρ (tCB r t) R := fun c σ H o Q q =>
  h c σ H o _ fun u H1 x o1 l1 r1 h1 => h1 c σ H1 u o1 r1 Q fun z H3 d o3 l3 r3 h3 => q z H3 d o3 (l1.trans l3) r3 h3
theorem g_cbS {t : TA} {r : List V → Hp → VK → Prop} (h : GA K w ρ t fun xs => OpC K w w ρ r xs R) : G K w ρ (tCB r t) R := fun c σ H o Q q =>
  h c σ H o _ fun u H1 x o1 l1 r1 h1 => h1 c σ H1 u o1 r1 Q fun z H3 d o3 l3 r3 h3 => q z H3 d o3 (l1.trans l3) r3 h3
theorem g_tup {t : TA} (h : GA K w ρ t fun xs => xs.length ≤ 100000 ∧ R (.tup xs)) : G K w ρ (tTup t) R := fun c σ H o Q q =>
  h c σ H o _ fun us H1 x o1 l1 r1 h1 => ⟨by rw [r1.length]; exact Nat.le_trans h1.1 (by decide), fun p hp => q _ _ _ (o1.ex (Ex.new hp)) (l1.trans (Ex.new hp).le) (.tup (.inl (.inl (o1.vw_new hp))) (r1.mono (Le.vw (Ex.new hp).le))) h1.2⟩
theorem g_lst {t : TA} (h : GA K w ρ t fun xs => xs.length ≤ 100000 ∧ R (.lst xs)) : G K w ρ (tLst t) R := fun c σ H o Q q =>
  h c σ H o _ fun us H1 x o1 l1 r1 h1 => ⟨by rw [r1.length]; exact Nat.le_trans h1.1 (by decide), fun p hp => q _ _ _ (o1.ex (Ex.new hp)) (l1.trans (Ex.new hp).le) (.lst (o1.vw_new hp) (r1.mono (Le.vw (Ex.new hp).le))) h1.2⟩

/-! ### tests -/
variable {tt uu : TT} {RT : Bool → Prop}
theorem gt_test (h : G K true ρ te fun x => ∃ b, x = .bl b ∧ RT b) : GT K ρ (tTest te) RT := fun c σ H o Q q =>
  h c σ H o _ fun v H2 d o2 l r ⟨b, e, k⟩ => by
    subst e
    cases r
    exact ⟨b, rfl, q b H2 o2 l k⟩
theorem gt_B (h : G K true ρ te fun x => ∃ b, x = .bl b ∧ RT b) : GT K ρ (tB te) RT := fun c σ H o Q q =>
  h c σ H o _ fun v H2 d o2 l r ⟨b, e, k⟩ => by
    subst e
    cases r
    exact ⟨b, rfl, q b H2 o2 l k⟩
theorem gt_and (h : GT K ρ tt fun a => (a = true → GT K ρ uu RT) ∧ (a = false → RT false)) : GT K ρ (tAnd tt uu) RT := fun c σ H o Q q =>
  h c σ H o _ fun b H2 o2 l k => by
    cases b with
    | true =>
      show uu σ H2 Q
      exact k.1 rfl c σ H2 o2 Q fun b H3 o3 l3 k3 => q b H3 o3 (l.trans l3) k3
    | false =>
      show Q false H2
      exact q false H2 o2 l (k.2 rfl)
theorem gt_or (h : GT K ρ tt fun a => (a = true → RT true) ∧ (a = false → GT K ρ uu RT)) : GT K ρ (tOr tt uu) RT := fun c σ H o Q q =>
  h c σ H o _ fun b H2 o2 l k => by
    cases b with
    | true =>
      show Q true H2
      exact q true H2 o2 l (k.1 rfl)
    | false =>
      show uu σ H2 Q
      exact k.2 rfl c σ H2 o2 Q fun b H3 o3 l3 k3 => q b H3 o3 (l.trans l3) k3
theorem gt_not (h : GT K ρ tt fun a => RT (!a)) : GT K ρ (tNot tt) RT := fun c σ H o Q q => h c σ H o _ fun b H2 o2 l k => q _ H2 o2 l k
theorem g_if (h : GT K ρ tt fun b => (b = true → G K w ρ ta R) ∧ (b = false → G K w ρ tb R)) : G K w ρ (tIf tt ta tb) R := fun c σ H o Q q =>
  h c σ H o _ fun b H2 o2 l k => by
    cases b with
    | true =>
      show ta σ H2 Q
      exact k.1 rfl c σ H2 o2 Q fun v H3 d o3 l3 r3 k3 => q v H3 d o3 (l.trans l3) r3 k3
    | false =>
      show tb σ H2 Q
      exact k.2 rfl c σ H2 o2 Q fun v H3 d o3 l3 r3 k3 => q v H3 d o3 (l.trans l3) r3 k3
theorem g_andV (h : G K true ρ ta fun x => ∃ b, x = .bl b ∧ (b = true → G K w ρ tb R) ∧ (b = false → R (.bl false))) : G K w ρ (tAndV ta tb) R := fun c σ H o Q q =>
  h c σ H o _ fun v H2 d o2 l r ⟨b, e, k⟩ => by
    subst e
    cases r
    refine ⟨b, rfl, ?_⟩
    cases b with
    | true =>
      show tb σ H2 Q
      exact k.1 rfl c σ H2 o2 Q fun v H3 d o3 l3 r3 k3 => q v H3 d o3 (l.trans l3) r3 k3
    | false =>
      show Q (.bl false) H2
      exact q _ H2 _ o2 l (.bl false) (k.2 rfl)
theorem g_orV (h : G K true ρ ta fun x => ∃ b, x = .bl b ∧ (b = true → R (.bl true)) ∧ (b = false → G K w ρ tb R)) : G K w ρ (tOrV ta tb) R := fun c σ H o Q q =>
  h c σ H o _ fun v H2 d o2 l r ⟨b, e, k⟩ => by
    subst e
    cases r
    refine ⟨b, rfl, ?_⟩
    cases b with
    | true =>
      show Q (.bl true) H2
      exact q _ H2 _ o2 l (.bl true) (k.1 rfl)
    | false =>
      show tb σ H2 Q
      exact k.2 rfl c σ H2 o2 Q fun v H3 d o3 l3 r3 k3 => q v H3 d o3 (l.trans l3) r3 k3
theorem g_notV (h : G K true ρ ta fun x => ∃ b, x = .bl b ∧ R (.bl (!b))) : G K w ρ (tNotV ta) R := fun c σ H o Q q =>
  h c σ H o _ fun v H2 d o2 l r ⟨b, e, k⟩ => by
    subst e
    cases r
    exact ⟨b, rfl, q _ H2 _ o2 l (.bl _) k⟩
end
end BV

end

section
set_option maxHeartbeats 4000000
namespace BV
open PySem L2

theorem set_get {α : Type} {l : List α} {i j : Nat} {a x : α} (h : (l.set i a)[j]? = some x) : (j = i ∧ x = a ∧ i < l.length) ∨ (j ≠ i ∧ l[j]? = some x) := by
  by_cases e : j = i
  · subst e
    left
    have hl : j < (l.set j a).length := (List.getElem?_eq_some_iff.mp h).1
    rw [List.length_set] at hl
    rw [List.getElem?_set_self hl] at h
    exact ⟨rfl, (Option.some.inj h).symm, hl⟩
  · right
    rw [List.getElem?_set_ne (fun z => e z.symm)] at h
    exact ⟨e, h⟩

section
variable {K : KB} {c : Bc} {w : Bool} {ρ : List Slot} {σ : St} {H H2 : Hp}
theorem sv_P {c c' : Bc} (h : c'.P = c.P) : sv c' ρ σ H = sv c ρ σ H := by
  show hid _ H = hid _ H
  rw [h]
theorem SlR.mono {K : PySem.W.Frag} {B B' : Hp} {s : Slot} {v : Option V} (e : Ex B B') (r : SlR K B H s v) (hh : ∀ a o, pa s v = some a → H a = some o → H2 a = some o) : SlR K B' H2 s v := by
  cases s with
  | no => trivial
  | d x => obtain ⟨u, e1, r⟩ := r; exact ⟨u, e1, r.mono e⟩
  | own ds => obtain ⟨a, xs, rfl, e1, r⟩ := r; exact ⟨a, xs, rfl, hh a _ rfl e1, r.mono e⟩
  | od ds => obtain ⟨a, xs, rfl, e1, r⟩ := r; exact ⟨a, xs, rfl, hh a _ rfl e1, r.mono e⟩
  | ot ds => obtain ⟨a, xs, rfl, e1, r⟩ := r; exact ⟨a, xs, rfl, hh a _ rfl e1, r.mono e⟩
  | src a => obtain ⟨rfl, n, s, cc, e1⟩ := r; exact ⟨rfl, n, s, cc, hh a _ rfl e1⟩
  | ins b C fs => obtain ⟨dx, xs, rfl, e1, r⟩ := r; exact ⟨dx, xs, rfl, hh b _ rfl e1, r.mono e⟩
  | exc a d C fs => obtain ⟨xs, rfl, e1, r⟩ := r; exact ⟨xs, rfl, e d _ e1, r.mono e⟩

theorem Pr.setD {i : Nat} {s : Slot} {v : Option V} (hp : pa s v = none) {a : Addr} (h : Pr (ρ.set i s) (σ.set i v) a) : Pr ρ σ a := by
  obtain ⟨j, s', v', h1, h2, h3⟩ := h
  rcases set_get h1 with ⟨e, e1, _⟩ | ⟨e, e1⟩
  · rcases set_get h2 with ⟨_, e2, _⟩ | ⟨n, _⟩
    · rw [e1, e2, hp] at h3
      cases h3
    · exact absurd e n
  · rcases set_get h2 with ⟨z, _, _⟩ | ⟨_, e2⟩
    · exact absurd z e
    · exact ⟨j, s', v', e1, e2, h3⟩
/-- a slot that keeps nothing private -/
theorem Ok.setD (k : Ok K c ρ σ H) {i : Nat} {s : Slot} {v : Option V} (hp : pa s v = none) (r : SlR K (sv c ρ σ H) H s v) : Ok K c (ρ.set i s) (σ.set i v) H := by
  have e : Ex (sv c ρ σ H) (sv c (ρ.set i s) (σ.set i v) H) := hid_ex fun b o hb e => ⟨fun z => hb (z.imp id fun y => by
    rw [if_neg Bool.false_ne_true] at y ⊢
    exact y.setD hp), e⟩
  refine ⟨⟨by rw [List.length_set, List.length_set]; exact k.len, fun j s' v' h1 h2 => ?_, fun j1 j2 s1 v1 s2 v2 a g1 g2 g3 g4 g5 g6 => ?_, fun a h => k.np a (h.setD hp), k.fr, fun a h => k.xs a (h.setD hp), k.pt⟩, k.xo⟩
  · rcases set_get h1 with ⟨z, e1, _⟩ | ⟨z, e1⟩
    · rcases set_get h2 with ⟨_, e2, _⟩ | ⟨n, _⟩
      · rw [e1, e2]
        exact r.mono e fun _ _ _ h => h
      · exact absurd z n
    · rcases set_get h2 with ⟨y, _, _⟩ | ⟨_, e2⟩
      · exact absurd y z
      · exact (k.sl j s' v' e1 e2).mono e fun _ _ _ h => h
  · have key : ∀ (j : Nat) s1 v1, (ρ.set i s)[j]? = some s1 → (σ.set i v)[j]? = some v1 → pa s1 v1 = some a → ρ[j]? = some s1 ∧ σ[j]? = some v1 := fun j s1 v1 g1 g2 g3 => by
      rcases set_get g1 with ⟨z, e1, _⟩ | ⟨z, e1⟩
      · rcases set_get g2 with ⟨_, e2, _⟩ | ⟨n, _⟩
        · rw [e1, e2, hp] at g3
          cases g3
        · exact absurd z n
      · rcases set_get g2 with ⟨y, _, _⟩ | ⟨_, e2⟩
        · exact absurd y z
        · exact ⟨e1, e2⟩
    obtain ⟨a1, a2⟩ := key j1 s1 v1 g1 g2 g3
    obtain ⟨b1, b2⟩ := key j2 s2 v2 g4 g5 g6
    exact k.inj j1 j2 s1 v1 s2 v2 a a1 a2 g3 b1 b2 g6
/-- a slot for a new object -/
theorem Ok.setN (k : Ok K c ρ σ H) (k2 : Ok K c ρ σ H2) (l : Le c ρ σ H H2) {i : Nat} {s : Slot} {a : Addr} (n : H a = none) (r : SlR K (hid (fun b => b = a) (sv c ρ σ H2)) H2 s (some (.ref a))) (hp : pa s (some (.ref a)) = some a) :
    Ok K c (ρ.set i s) (σ.set i (some (.ref a))) H2 := by
  have npr : ¬ Pr ρ σ a := fun z => by
    obtain ⟨o, e, _⟩ := k.tr z
    rw [n] at e
    cases e
  have back : ∀ {b : Addr}, Pr (ρ.set i s) (σ.set i (some (.ref a))) b → b = a ∨ Pr ρ σ b := fun {b} h => by
    obtain ⟨j, s', v', h1, h2, h3⟩ := h
    rcases set_get h1 with ⟨e, e1, _⟩ | ⟨e, e1⟩
    · rcases set_get h2 with ⟨_, e2, _⟩ | ⟨z, _⟩
      · rw [e1, e2, hp] at h3
        exact .inl (Option.some.inj h3).symm
      · exact absurd e z
    · rcases set_get h2 with ⟨z, _, _⟩ | ⟨_, e2⟩
      · exact absurd z e
      · exact .inr ⟨j, s', v', e1, e2, h3⟩
  have e : Ex (sv c ρ σ H) (sv c (ρ.set i s) (σ.set i (some (.ref a))) H2) := hid_ex fun b o hb e => by
    have hb1 : ¬ c.P b := fun z => hb (.inl z)
    have hb2 : ¬ Pr ρ σ b := fun z => hb (.inr (by rw [if_neg Bool.false_ne_true]; exact z))
    refine ⟨fun z => ?_, l b o (fun z => hb2 z.pr) e⟩
    rcases z with z | z
    · exact hb1 z
    · rw [if_neg Bool.false_ne_true] at z
      rcases back z with q | q
      · rw [q, n] at e
        cases e
      · exact hb2 q
  have ea : Ex (hid (fun b => b = a) (sv c ρ σ H2)) (sv c (ρ.set i s) (σ.set i (some (.ref a))) H2) := fun b o hb => by
    obtain ⟨h1, h2⟩ := hid_some.mp hb
    obtain ⟨h3, h4⟩ := hid_some.mp h2
    refine hid_some.mpr ⟨fun z => ?_, h4⟩
    rcases z with z | z
    · exact h3 (.inl z)
    · rw [if_neg Bool.false_ne_true] at z
      rcases back z with q | q
      · exact h1 q
      · exact h3 (.inr (by rw [if_neg Bool.false_ne_true]; exact q))
  have nP : ¬ c.P a := fun z => by
    obtain ⟨o, e⟩ := k.pt a z
    rw [n] at e
    cases e
  refine ⟨⟨by rw [List.length_set, List.length_set]; exact k.len, fun j s' v' h1 h2 => ?_, fun j1 j2 s1 v1 s2 v2 b g1 g2 g3 g4 g5 g6 => ?_, fun b h => ?_, k2.fr, fun b h => ?_, k2.pt⟩, k.xo⟩
  · rcases set_get h1 with ⟨z, e1, _⟩ | ⟨z, e1⟩
    · rcases set_get h2 with ⟨_, e2, _⟩ | ⟨m, _⟩
      · rw [e1, e2]
        exact r.mono ea fun _ _ _ h => h
      · exact absurd z m
    · rcases set_get h2 with ⟨y, _, _⟩ | ⟨_, e2⟩
      · exact absurd y z
      · by_cases hf : (fa s' v').isSome = true
        · have q := k2.sl j s' v' e1 e2
          cases s' with
          | src x => exact q
          | _ => exact absurd hf (by simp [fa])
        · refine (k.sl j s' v' e1 e2).mono e fun b o hb hh => l b o (fun ⟨j', s'', v'', q1, q2, q3⟩ => ?_) hh
          have ij := k.inj j j' s' v' s'' v'' b e1 e2 hb q1 q2 (fa_pa q3)
          subst ij
          rw [e1] at q1
          rw [e2] at q2
          cases q1
          cases q2
          exact hf (by rw [q3]; rfl)
  · have key : ∀ (j : Nat) s1 v1, (ρ.set i s)[j]? = some s1 → (σ.set i (some (.ref a)))[j]? = some v1 → pa s1 v1 = some b → (j = i ∧ b = a) ∨ (j ≠ i ∧ ρ[j]? = some s1 ∧ σ[j]? = some v1) := fun j s1 v1 g1 g2 g3 => by
      rcases set_get g1 with ⟨z, e1, _⟩ | ⟨z, e1⟩
      · rcases set_get g2 with ⟨_, e2, _⟩ | ⟨m, _⟩
        · rw [e1, e2, hp] at g3
          exact .inl ⟨z, (Option.some.inj g3).symm⟩
        · exact absurd z m
      · rcases set_get g2 with ⟨y, _, _⟩ | ⟨_, e2⟩
        · exact absurd y z
        · exact .inr ⟨z, e1, e2⟩
    rcases key j1 s1 v1 g1 g2 g3 with ⟨a1, a2⟩ | ⟨a0, a1, a2⟩
    · rcases key j2 s2 v2 g4 g5 g6 with ⟨b1, b2⟩ | ⟨b0, b1, b2⟩
      · rw [a1, b1]
      · rw [a2] at g6
        exact absurd ⟨j2, s2, v2, b1, b2, g6⟩ npr
    · rcases key j2 s2 v2 g4 g5 g6 with ⟨b1, b2⟩ | ⟨b0, b1, b2⟩
      · rw [b2] at g3
        exact absurd ⟨j1, s1, v1, a1, a2, g3⟩ npr
      · exact k.inj j1 j2 s1 v1 s2 v2 b a1 a2 g3 b1 b2 g6
  · rcases back h with q | q
    · rw [q]; exact nP
    · exact k.np b q
  · rcases back h with q | q
    · rw [q]
      by_cases hx : c.X a
      · exact .inl hx
      · right
        cases h0 : c.H0 a with
        | none => rfl
        | some o =>
          rw [k.fr a o hx h0] at n
          cases n
    · exact k.xs b q
/-- a private object changed -/
theorem Ok.write (k : Ok K c ρ σ H) {i : Nat} {s s' : Slot} {v : Option V} {a : Addr} {o' : HO} (h : ρ[i]? = some s) (e : σ[i]? = some v) (hp : pa s v = some a) (hp' : pa s' v = some a) (r : SlR K (sv c ρ σ H) (upd H a o') s' v) : Ok K c (ρ.set i s') σ (upd H a o') := by
  have hi : i < ρ.length := (List.getElem?_eq_some_iff.mp h).1
  have hpr : Pr ρ σ a := ⟨i, s, v, h, e, hp⟩
  have back : ∀ {b : Addr}, Pr (ρ.set i s') σ b → Pr ρ σ b := fun {b} ⟨j, s1, v1, h1, h2, h3⟩ => by
    rcases set_get h1 with ⟨z, e1, _⟩ | ⟨z, e1⟩
    · subst z
      rw [e] at h2
      cases h2
      rw [e1, hp'] at h3
      cases h3
      exact hpr
    · exact ⟨j, s1, v1, e1, h2, h3⟩
  have ev : Ex (sv c ρ σ H) (sv c (ρ.set i s') σ (upd H a o')) := hid_ex fun b o hb e => by
    have hb2 : ¬ Pr ρ σ b := fun z => hb (.inr (by rw [if_neg Bool.false_ne_true]; exact z))
    refine ⟨fun z => ?_, by rw [upd_ne (fun z => hb2 (by rw [z]; exact hpr))]; exact e⟩
    rcases z with z | z
    · exact hb (.inl z)
    · rw [if_neg Bool.false_ne_true] at z
      exact hb2 (back z)
  refine ⟨⟨by rw [List.length_set]; exact k.len, fun j s1 v1 h1 h2 => ?_, fun j1 j2 s1 v1 s2 v2 b g1 g2 g3 g4 g5 g6 => ?_, fun b hb => k.np b (back hb), fun b o h1 h2 => ?_, fun b hb => k.xs b (back hb), fun b hb => ?_⟩, k.xo⟩
  · rcases set_get h1 with ⟨z, e1, _⟩ | ⟨z, e1⟩
    · subst z
      rw [e] at h2
      cases h2
      rw [e1]
      exact r.mono ev fun _ _ _ h => h
    · refine (k.sl j s1 v1 e1 h2).mono ev fun b o hb hh => ?_
      rw [upd_ne ?_]
      · exact hh
      · rintro rfl
        exact z (k.inj j i s1 v1 s v b e1 h2 hb h e hp)
  · have key : ∀ (j : Nat) s1 v1, (ρ.set i s')[j]? = some s1 → σ[j]? = some v1 → pa s1 v1 = some b → ∃ s2, ρ[j]? = some s2 ∧ pa s2 v1 = some b := fun j s1 v1 g1 g2 g3 => by
      rcases set_get g1 with ⟨z, e1, _⟩ | ⟨z, e1⟩
      · subst z
        rw [e] at g2
        cases g2
        rw [e1, hp'] at g3
        cases g3
        exact ⟨s, h, hp⟩
      · exact ⟨s1, e1, g3⟩
    obtain ⟨t1, a1, a2⟩ := key j1 s1 v1 g1 g2 g3
    obtain ⟨t2, b1, b2⟩ := key j2 s2 v2 g4 g5 g6
    exact k.inj j1 j2 t1 v1 t2 v2 b a1 g2 a2 b1 g5 b2
  · rw [upd_ne ?_]
    · exact k.fr b o h1 h2
    · rintro rfl
      rcases k.xs b hpr with z | z
      · exact h1 z
      · rw [h2] at z
        cases z
  · by_cases z : b = a
    · exact ⟨o', by rw [z, upd_same]⟩
    · obtain ⟨o, e1⟩ := k.pt b hb
      exact ⟨o, by rw [upd_ne z]; exact e1⟩
/-- what is visible now stays as it is -/
theorem Ok0.fix {K : PySem.W.Frag} (k : Ok0 K c ρ σ H) : ∃ c' : Bc, c'.P = c.P ∧ (∀ a, (c'.X a ∨ c'.H0 a = none) → (c.X a ∨ c.H0 a = none)) ∧ Ok0 K c' ρ σ H ∧ ∀ ρ' σ' H', Ok0 K c' ρ' σ' H' → Ok0 K c ρ' σ' H' ∧ Ex (sv c ρ σ H) (sv c ρ' σ' H') := by
  have hP : ∀ b, Classical.propDecidable (¬ c.P b ∧ ¬ Pr ρ σ b) = Classical.propDecidable (¬ c.P b ∧ ¬ Pr ρ σ b) := fun _ => rfl
  refine ⟨⟨c.P, fun b => c.X b ∧ (c.P b ∨ Pr ρ σ b), fun b => @ite _ (c.P b ∨ Pr ρ σ b) (Classical.propDecidable _) (c.H0 b) (H b)⟩, rfl, fun b hb => ?_, ⟨k.len, k.sl, k.inj, k.np, fun b o h1 h2 => ?_, fun b hb => ?_, k.pt⟩, fun ρ' σ' H' k' => ⟨⟨k'.len, k'.sl, k'.inj, k'.np, fun b o h1 h2 => ?_, fun b hb => ?_, k'.pt⟩, ?_⟩⟩
  · rcases hb with z | z
    · exact .inl z.1
    · change @ite _ (c.P b ∨ Pr ρ σ b) (Classical.propDecidable _) (c.H0 b) (H b) = none at z
      by_cases hq : c.P b ∨ Pr ρ σ b
      · rw [if_pos hq] at z
        exact .inr z
      · rw [if_neg hq] at z
        by_cases hx : c.X b
        · exact .inl hx
        · right
          cases h0 : c.H0 b with
          | none => rfl
          | some o =>
            rw [k.fr b o hx h0] at z
            cases z
  · change @ite _ (c.P b ∨ Pr ρ σ b) (Classical.propDecidable _) (c.H0 b) (H b) = some o at h2
    by_cases hb : c.P b ∨ Pr ρ σ b
    · rw [if_pos hb] at h2
      exact k.fr b o (fun z => h1 ⟨z, hb⟩) h2
    · rw [if_neg hb] at h2
      exact h2
  · show (c.X b ∧ (c.P b ∨ Pr ρ σ b)) ∨ @ite _ (c.P b ∨ Pr ρ σ b) (Classical.propDecidable _) (c.H0 b) (H b) = none
    rw [if_pos (.inr hb)]
    rcases k.xs b hb with z | z
    · exact .inl ⟨z, .inr hb⟩
    · exact .inr z
  · refine k'.fr b o (fun z => h1 z.1) ?_
    show @ite _ (c.P b ∨ Pr ρ σ b) (Classical.propDecidable _) (c.H0 b) (H b) = some o
    by_cases hb : c.P b ∨ Pr ρ σ b
    · rw [if_pos hb]
      exact h2
    · rw [if_neg hb]
      exact k.fr b o h1 h2
  · rcases k'.xs b hb with z | z
    · exact .inl z.1
    · change @ite _ (c.P b ∨ Pr ρ σ b) (Classical.propDecidable _) (c.H0 b) (H b) = none at z
      by_cases hq : c.P b ∨ Pr ρ σ b
      · rw [if_pos hq] at z
        exact .inr z
      · rw [if_neg hq] at z
        by_cases hx : c.X b
        · exact .inl hx
        · right
          cases h0 : c.H0 b with
          | none => rfl
          | some o =>
            rw [k.fr b o hx h0] at z
            cases z
  · refine hid_ex fun b o hb e => ?_
    have hq : ¬ (c.P b ∨ Pr ρ σ b) := fun z => hb (z.imp id fun y => by rw [if_neg Bool.false_ne_true]; exact y)
    have e0 : @ite _ (c.P b ∨ Pr ρ σ b) (Classical.propDecidable _) (c.H0 b) (H b) = some o := by rw [if_neg hq]; exact e
    refine ⟨fun z => ?_, k'.fr b o (fun z => hq z.2) e0⟩
    rcases z with z | z
    · exact hq (.inl z)
    · rw [if_neg Bool.false_ne_true] at z
      rcases k'.xs b z with y | y
      · exact hq y.2
      · change @ite _ (c.P b ∨ Pr ρ σ b) (Classical.propDecidable _) (c.H0 b) (H b) = none at y
        rw [e0] at y
        cases y
theorem Ok.fix (k : Ok K c ρ σ H) : ∃ c' : Bc, c'.P = c.P ∧ (∀ a, (c'.X a ∨ c'.H0 a = none) → (c.X a ∨ c.H0 a = none)) ∧ Ok K c' ρ σ H ∧ ∀ ρ' σ' H', Ok K c' ρ' σ' H' → Ok K c ρ' σ' H' ∧ Ex (sv c ρ σ H) (sv c ρ' σ' H') := by
  obtain ⟨c', h1, h2, h3, h4⟩ := k.toOk0.fix
  exact ⟨c', h1, h2, ⟨h3, k.xo.tr (fun ρ σ H o => (h4 ρ σ H o).1) fun ρ σ H => by rw [sv_P h1]; exact Ex.refl _⟩, fun ρ' σ' H' o => ⟨⟨(h4 ρ' σ' H' o.toOk0).1, k.xo⟩, (h4 ρ' σ' H' o.toOk0).2⟩⟩
end

/-! ### statements -/
abbrev LS := List Slot
/-- what is handed back: data, or a new object -/
inductive Ret where
  | d (x : Dat) | n (s : Slot)
structure Is (K : KB) (c : Bc) (D : Ends) (N : LS → Prop) (R : Ret → LS → Prop) (B C : LS → Prop) : Prop where
  nx : ∀ ρ σ H, Ok K c ρ σ H → N ρ → D.nx σ H
  rt : ∀ ρ σ H v d, Ok K c ρ σ H → Rep K (sv c ρ σ H) v d → R (.d d) ρ → D.rt v H
  rn : ∀ ρ σ H a s, Ok K c ρ σ H → (c.X a ∨ c.H0 a = none) → SlR K (hid (fun b => b = a) (sv c ρ σ H)) H s (some (.ref a)) → pa s (some (.ref a)) = some a → R (.n s) ρ → D.rt (.ref a) H
  bk : ∀ ρ σ H, Ok K c ρ σ H → B ρ → D.bk σ H
  ct : ∀ ρ σ H, Ok K c ρ σ H → C ρ → D.ct σ H
def Run (K : KB) (ρ : LS) (t : TS) (N : LS → Prop) (R : Ret → LS → Prop) (B C : LS → Prop) : Prop := ∀ c D, Is K c D N R B C → ∀ σ H, Ok K c ρ σ H → t D σ H
/-- a target takes a value -/
def GG (K : KB) (ρ : LS) (g : TG) (x : Dat) (k : LS → Prop) : Prop := ∀ c σ H v, Ok K c ρ σ H → Rep K (sv c ρ σ H) v x → ∀ Q : St → Hp → Prop, (∀ ρ' σ', Ok K c ρ' σ' H → Ex (sv c ρ σ H) (sv c ρ' σ' H) → k ρ' → Q σ' H) → g v σ H Q
def GGs (K : KB) (ρ : LS) (g : TGs) (xs : List Dat) (k : LS → Prop) : Prop := ∀ c σ H vs, Ok K c ρ σ H → RepL K (sv c ρ σ H) vs xs → ∀ Q : St → Hp → Prop, (∀ ρ' σ', Ok K c ρ' σ' H → Ex (sv c ρ σ H) (sv c ρ' σ' H) → k ρ' → Q σ' H) → g vs σ H Q
section
variable {K : KB} {ρ : LS} {k : LS → Prop}
theorem ex_setD {c : Bc} {σ : St} {H : Hp} {i : Nat} {s : Slot} {v : Option V} (hp : pa s v = none) : Ex (sv c ρ σ H) (sv c (ρ.set i s) (σ.set i v) H) := hid_ex fun b o hb e => ⟨fun z => hb (z.imp id fun y => by
  rw [if_neg Bool.false_ne_true] at y ⊢
  exact y.setD hp), e⟩
theorem gg_name {i : Nat} {x : Dat} (h : k (ρ.set i (.d x))) : GG K ρ (gName i) x k := fun c σ H v o r Q q => q _ _ (o.setD (s := .d x) (v := some v) rfl ⟨v, rfl, r⟩) (ex_setD (s := .d x) rfl) h
theorem ggs_nil (h : k ρ) : GGs K ρ gNil [] k := fun c σ H vs o r Q q => by
  cases r
  exact ⟨rfl, q ρ σ o (Ex.refl _) h⟩
theorem ggs_cons {g : TG} {gs : TGs} {x : Dat} {xs : List Dat} (h : GG K ρ g x fun ρ1 => GGs K ρ1 gs xs k) : GGs K ρ (gCons g gs) (x :: xs) k := fun c σ H vs o r Q q => by
  cases r with
  | cons r1 r2 => exact ⟨_, _, rfl, h c σ H _ o r1 _ fun ρ1 σ1 o1 e1 h1 => h1 c σ1 H _ o1 (r2.mono e1) Q fun ρ2 σ2 o2 e2 h2 => q ρ2 σ2 o2 (e1.trans e2) h2⟩
theorem gg_tup {n : Nat} {gs : TGs} {xs : List Dat} (hn : xs.length = n) (h : GGs K ρ gs xs k) : GG K ρ (gTup K n gs) (.tup xs) k := fun c σ H v o r Q q => by
  cases r with
  | tup s rl => exact ⟨_, _, rfl, ex_t vw_le s, by rw [rl.length]; exact hn, h c σ H _ o rl Q q⟩
end

section
variable {K : KB} {w : Bool} {ρ : LS} {ta tb te : TE} {t u : TS} {N : LS → Prop} {R : Ret → LS → Prop} {B C : LS → Prop}
theorem run_next (h : N ρ) : Run K ρ tNext N R B C := fun c D is σ H o => is.nx ρ σ H o h
theorem run_brk (h : B ρ) : Run K ρ tBreak N R B C := fun c D is σ H o => is.bk ρ σ H o h
theorem run_cont (h : C ρ) : Run K ρ tCont N R B C := fun c D is σ H o => is.ct ρ σ H o h
theorem run_never (h : False) : Run K ρ t N R B C := h.elim
theorem run_seq (h : Run K ρ t (fun ρ' => Run K ρ' u N R B C) R B C) : Run K ρ (tSeq t u) N R B C := fun c D is σ H o =>
  h c { D with nx := u D } ⟨fun ρ' σ' H' o' k => k c D is σ' H' o', is.rt, is.rn, is.bk, is.ct⟩ σ H o
theorem run_mono {N' : LS → Prop} {R' : Ret → LS → Prop} {B' C' : LS → Prop} (h : Run K ρ t N R B C) (h1 : ∀ ρ, N ρ → N' ρ) (h2 : ∀ d ρ, R d ρ → R' d ρ) (h3 : ∀ ρ, B ρ → B' ρ) (h4 : ∀ ρ, C ρ → C' ρ) : Run K ρ t N' R' B' C' := fun c D is σ H o =>
  h c D ⟨fun ρ σ H o k => is.nx ρ σ H o (h1 ρ k), fun ρ σ H v d o r k => is.rt ρ σ H v d o r (h2 _ ρ k), fun ρ σ H a s o h r hp k => is.rn ρ σ H a s o h r hp (h2 _ ρ k), fun ρ σ H o k => is.bk ρ σ H o (h3 ρ k), fun ρ σ H o k => is.ct ρ σ H o (h4 ρ k)⟩ σ H o
/-- a cut: what follows is shown once, from a word -/
theorem run_cut (M : LS → Prop) (h : Run K ρ t M R B C) (k : ∀ ρ', M ρ' → N ρ') : Run K ρ t N R B C := run_mono h k (fun _ _ h => h) (fun _ h => h) fun _ h => h
theorem run_asg {i : Nat} (h : G K false ρ te fun d => N (ρ.set i (.d d))) : Run K ρ (tAsg te (gName i)) N R B C := fun c D is σ H o =>
  h c σ H o _ fun v H2 d o2 l r k => is.nx _ _ _ (o2.setD (s := .d d) (v := some v) rfl ⟨v, rfl, r⟩) k
theorem run_asgG {g : TG} (h : G K false ρ te fun d => GG K ρ g d N) : Run K ρ (tAsg te g) N R B C := fun c D is σ H o =>
  h c σ H o _ fun v H2 d o2 l r k => k c σ H2 v o2 r D.nx fun ρ' σ' o' _ n => is.nx ρ' σ' H2 o' n
theorem run_asgN {i : Nat} (h : GN K ρ te fun s => N (ρ.set i s)) : Run K ρ (tAsg te (gName i)) N R B C := fun c D is σ H o =>
  h c σ H o _ fun a H2 s o2 l n r hp k => is.nx _ _ _ (o.setN o2 l n r hp) k
theorem run_ret (h : G K false ρ te fun d => R (.d d) ρ) : Run K ρ (tRet te) N R B C := fun c D is σ H o =>
  h c σ H o _ fun v H2 d o2 l r k => is.rt ρ σ H2 v d o2 r k
theorem run_retNew (h : GN K ρ te fun s => R (.n s) ρ) : Run K ρ (tRet te) N R B C := fun c D is σ H o =>
  h c σ H o _ fun a H2 s o2 l n r hp k => is.rn ρ σ H2 a s o2 (by
    by_cases hx : c.X a
    · exact .inl hx
    · right
      cases h0 : c.H0 a with
      | none => rfl
      | some ob => rw [o.fr a ob hx h0] at n; cases n) r hp k
theorem run_retN (h : R (.d .non) ρ) : Run K ρ tRetN N R B C := fun c D is σ H o => is.rt ρ σ H .non .non o .non h
theorem run_drop (h : G K true ρ te fun _ => N ρ) : Run K ρ (tDrop te) N R B C := fun c D is σ H o =>
  h c σ H o _ fun v H2 d o2 l r k => is.nx ρ σ H2 o2 k
theorem run_if {tt : TT} (h : GT K ρ tt fun b => (b = true → Run K ρ t N R B C) ∧ (b = false → Run K ρ u N R B C)) : Run K ρ (tIfS tt t u) N R B C := fun c D is σ H o =>
  h c σ H o _ fun b H2 o2 l k => by
    cases b with
    | true => exact k.1 rfl c D is σ H2 o2
    | false => exact k.2 rfl c D is σ H2 o2
/-- an own list becomes data -/
theorem run_frz {i : Nat} {s : Slot} {x : Dat} (h : ρ[i]? = some s) (hs : (∃ ds, s = .own ds ∧ x = .lst ds) ∨ (∃ ds, s = .od ds ∧ x = .dk ds) ∨ ∃ ds, s = .ot ds ∧ x = .dt ds) (k : Run K (ρ.set i (.d x)) t N R B C) : Run K ρ t N R B C := fun c D is σ H o => by
  refine k c D is σ H ?_
  obtain ⟨v, e, r⟩ := o.get h
  have hσ : σ.set i v = σ := by
    apply List.ext_getElem?
    intro j
    by_cases z : i = j
    · subst z
      rw [List.getElem?_set_self ((List.getElem?_eq_some_iff.mp e).1), e]
    · rw [List.getElem?_set_ne z]
  have np : ∀ a, pa s v = some a → ¬ Pr (ρ.set i (.d x)) σ a := fun a ha ⟨j, s', v', h1, h2, h3⟩ => by
    rcases set_get h1 with ⟨z, e1, _⟩ | ⟨z, e1⟩
    · rw [e1] at h3
      cases h3
    · exact z (o.inj j i s' v' s v a e1 h2 h3 h e ha)
  have e2 : Ex (sv c ρ σ H) (sv c (ρ.set i (.d x)) σ H) := by
    have := ex_setD (ρ := ρ) (c := c) (σ := σ) (H := H) (i := i) (s := .d x) (v := v) rfl
    rw [hσ] at this
    exact this
  -- the slot's own object is seen now
  have seen : ∀ a ob, pa s v = some a → H a = some ob → sv c (ρ.set i (.d x)) σ H a = some ob := fun a ob ha hh => by
    refine hid_some.mpr ⟨fun z => ?_, hh⟩
    rcases z with z | z
    · exact o.np a ⟨i, s, v, h, e, ha⟩ z
    · rw [if_neg Bool.false_ne_true] at z
      exact np a ha z
  have rx : ∃ y, v = some y ∧ Rep K (sv c (ρ.set i (.d x)) σ H) y x := by
    rcases hs with ⟨ds, rfl, rfl⟩ | ⟨ds, rfl, rfl⟩ | ⟨ds, rfl, rfl⟩
    · obtain ⟨a, xs, rfl, e3, r3⟩ := r
      exact ⟨_, rfl, .lst (seen a _ rfl e3) (r3.mono e2)⟩
    · obtain ⟨a, xs, rfl, e3, r3⟩ := r
      exact ⟨_, rfl, .dk (seen a _ rfl e3) (r3.mono e2)⟩
    · obtain ⟨a, xs, rfl, e3, r3⟩ := r
      exact ⟨_, rfl, .dt (seen a _ rfl e3) (r3.mono e2)⟩
  refine ⟨⟨by rw [List.length_set]; exact o.len, fun j s' v' h1 h2 => ?_, fun j1 j2 s1 v1 s2 v2 a g1 g2 g3 g4 g5 g6 => ?_, fun a ha => ?_, o.fr, fun a ha => ?_, o.pt⟩, o.xo⟩
  · rcases set_get h1 with ⟨z, e1, _⟩ | ⟨z, e1⟩
    · subst z
      rw [e] at h2
      cases h2
      rw [e1]
      exact rx
    · exact (o.sl j s' v' e1 h2).mono e2 fun _ _ _ h => h
  · have key : ∀ (j : Nat) s1 v1, (ρ.set i (.d x))[j]? = some s1 → pa s1 v1 = some a → ρ[j]? = some s1 := fun j s1 v1 g1 g3 => by
      rcases set_get g1 with ⟨z, e1, _⟩ | ⟨z, e1⟩
      · rw [e1] at g3
        cases g3
      · exact e1
    exact o.inj j1 j2 s1 v1 s2 v2 a (key j1 s1 v1 g1 g3) g2 g3 (key j2 s2 v2 g4 g6) g5 g6
  · have := ha
    rw [← hσ] at this
    exact o.np a (this.setD rfl)
  · have := ha
    rw [← hσ] at this
    exact o.xs a (this.setD rfl)

/-! ### loops -/
theorem run_while {tc : TT} {tb : TS} (W : Nat → LS → Prop) (m0 : Nat) (h0 : W m0 ρ)
    (hs : ∀ m ρ', W m ρ' → GT K ρ' tc fun b => (b = true → Run K ρ' tb (fun ρ2 => ∃ m', m' < m ∧ W m' ρ2) R N fun ρ2 => ∃ m', m' < m ∧ W m' ρ2) ∧ (b = false → N ρ')) : Run K ρ (tWhile tc tb) N R B C := fun c D is σ H o => by
  refine ⟨fun m σ H => ∃ ρ', Ok K c ρ' σ H ∧ W m ρ', ⟨m0, ρ, o, h0⟩, fun m σ H ⟨ρ', o', w'⟩ => hs m ρ' w' c σ H o' _ fun b H1 o1 l k => ?_⟩
  cases b with
  | true =>
    rw [if_pos rfl]
    exact ⟨fun σ2 H2 => ∃ m', m' < m ∧ ∃ ρ2, Ok K c ρ2 σ2 H2 ∧ W m' ρ2, fun σ2 H2 h => h, k.1 rfl c { D with nx := fun σ2 H2 => ∃ m', m' < m ∧ ∃ ρ2, Ok K c ρ2 σ2 H2 ∧ W m' ρ2, ct := fun σ2 H2 => ∃ m', m' < m ∧ ∃ ρ2, Ok K c ρ2 σ2 H2 ∧ W m' ρ2, bk := D.nx } ⟨fun ρ2 σ2 H2 o2 ⟨m', hm, w2⟩ => ⟨m', hm, ρ2, o2, w2⟩, is.rt, is.rn, is.nx, fun ρ2 σ2 H2 o2 ⟨m', hm, w2⟩ => ⟨m', hm, ρ2, o2, w2⟩⟩ σ H1 o1⟩
  | false =>
    rw [if_neg Bool.false_ne_true]
    exact is.nx ρ' σ H1 o1 (k.2 rfl)
end
end BV

end

section
set_option maxHeartbeats 4000000
namespace BV
open PySem L2

abbrev S (w : List Nat) : Str := ⟨w.toArray⟩
theorem S_len (w : List Nat) : (S w).length = w.length := by
  show w.toArray.size = w.length
  simp
theorem S_list (w : List Nat) : (S w).cps.toList = w := by simp
theorem S_inj {a b : List Nat} (h : S a = S b) : a = b := by
  have := congrArg (fun s => s.cps.toList) h
  simpa using this
theorem S_append (a b : List Nat) : S a ++ S b = S (a ++ b) := by
  show (⟨a.toArray ++ b.toArray⟩ : Str) = ⟨(a ++ b).toArray⟩
  simp
theorem S_dec (a b : List Nat) : decide (V.str (S a) = V.str (S b)) = decide (a = b) := by
  by_cases h : a = b
  · rw [decide_eq_true h, decide_eq_true (by rw [h])]
  · rw [decide_eq_false h, decide_eq_false fun e => h (S_inj (V.str.inj e))]

section
variable {K : KB} {w w1 : Bool} {ρ : LS} {ta tb tc te : TE} {R : Dat → Prop}

/-! ### operators on ints -/
theorem o2_I0 {f : Int → Int → Int} {i j : Int} (k : R (.int (f i j))) : Op2 K w1 w ρ (rI0 fun i j => V.int (f i j)) (.int i) (.int j) R := fun c σ H u v o r1 r2 Q q => by
  cases r1; cases r2
  exact ⟨i, j, rfl, rfl, q _ H _ o .refl (.int _) k⟩
theorem o2_I0b {f : Int → Int → Bool} {i j : Int} (k : R (.bl (f i j))) : Op2 K w1 w ρ (rI0 fun i j => V.bl (f i j)) (.int i) (.int j) R := fun c σ H u v o r1 r2 Q q => by
  cases r1; cases r2
  exact ⟨i, j, rfl, rfl, q _ H _ o .refl (.bl _) k⟩
theorem o2_I {C : Int → Int → Prop} {f : Int → Int → Int} {i j : Int} (hc : C i j) (k : R (.int (f i j))) : Op2 K w1 w ρ (rI C fun i j => V.int (f i j)) (.int i) (.int j) R := fun c σ H u v o r1 r2 Q q => by
  cases r1; cases r2
  exact ⟨i, j, rfl, rfl, hc, q _ H _ o .refl (.int _) k⟩
theorem o1_U {f : Int → Int} {i : Int} (k : R (.int (f i))) : Op1 K w1 w ρ (rU fun i => V.int (f i)) (.int i) R := fun c σ H u o r1 Q q => by
  cases r1
  exact ⟨i, rfl, q _ H _ o .refl (.int _) k⟩

/-! ### texts -/
def rAddS : R2 := fun x y H Q => ∃ i j, x = .str i ∧ y = .str j ∧ i.length + j.length ≤ sizeLine ∧ Q (.str (i ++ j)) H
theorem big {n : Nat} (h : n ≤ 1000000) : n ≤ sizeLine := Nat.le_trans h (by decide)
theorem bigL {n : Nat} (h : n < 1000000) : n < sizeLine := Nat.lt_of_lt_of_le h (by decide)
theorem o2_addS {a b : List Nat} (hl : a.length + b.length ≤ 1000000) (k : R (.str (a ++ b))) : Op2 K w1 w ρ rAddS (.str a) (.str b) R := fun c σ H u v o r1 r2 Q q => by
  cases r1; cases r2
  refine ⟨S a, S b, rfl, rfl, by rw [S_len, S_len]; exact big hl, ?_⟩
  rw [S_append]
  exact q _ H _ o .refl (.str _) k
def rLtS : R2 := fun x y H Q => ∃ i j, x = .str i ∧ y = .str j ∧ Q (.bl (decide (i.cps.toList < j.cps.toList))) H
theorem o2_ltS {a b : List Nat} (k : R (.bl (decide (a < b)))) : Op2 K w1 w ρ rLtS (.str a) (.str b) R := fun c σ H u v o r1 r2 Q q => by
  cases r1; cases r2
  refine ⟨S a, S b, rfl, rfl, ?_⟩
  rw [S_list, S_list]
  exact q _ H _ o .refl (.bl _) k
def rGeS : R2 := fun x y H Q => ∃ i j, x = .str i ∧ y = .str j ∧ Q (.bl (!decide (i.cps.toList < j.cps.toList))) H
theorem o2_geS {a b : List Nat} (k : R (.bl (!decide (a < b)))) : Op2 K w1 w ρ rGeS (.str a) (.str b) R := fun c σ H u v o r1 r2 Q q => by
  cases r1; cases r2
  refine ⟨S a, S b, rfl, rfl, ?_⟩
  rw [S_list, S_list]
  exact q _ H _ o .refl (.bl _) k
def rInS (neg : Bool) : R2 := fun x y H Q => ∃ (c : Nat) (z : Str), x = .str ⟨#[c]⟩ ∧ y = .str z ∧ Q (.bl (if neg then !decide (c ∈ z.cps.toList) else decide (c ∈ z.cps.toList))) H
theorem op_inS {X : Cx} : OpR X (compareOp .In) (rInS false) := op_in_sign
theorem op_notInS {X : Cx} : OpR X (compareOp .NotIn) (rInS true) := op_notIn_sign
theorem o2_inS {neg : Bool} {n : Nat} {b : List Nat} (k : R (.bl (if neg then !decide (n ∈ b) else decide (n ∈ b)))) : Op2 K w1 w ρ (rInS neg) (.str [n]) (.str b) R := fun c σ H u v o r1 r2 Q q => by
  cases r1; cases r2
  refine ⟨n, S b, rfl, rfl, ?_⟩
  rw [S_list]
  exact q _ H _ o .refl (.bl _) k
/-- a text in a text -/
def occ (i j : List Nat) : Bool := !(Builtin.Str.occurrences (S j) (S i) 0 (S j).length 1).isEmpty
def rSub (neg : Bool) : R2 := fun x y H Q => ∃ i j, x = .str i ∧ y = .str j ∧ Q (.bl (if neg then !(!(Builtin.Str.occurrences j i 0 j.length 1).isEmpty) else !(Builtin.Str.occurrences j i 0 j.length 1).isEmpty)) H
theorem op_sub_ {X : Cx} : OpR X (compareOp .In) (rSub false) := op_in_str
theorem op_notSub {X : Cx} : OpR X (compareOp .NotIn) (rSub true) := op_notin_str
theorem o2_sub {neg : Bool} {a b : List Nat} (k : R (.bl (if neg then !occ a b else occ a b))) : Op2 K w1 w ρ (rSub neg) (.str a) (.str b) R := fun c σ H u v o r1 r2 Q q => by
  cases r1; cases r2
  exact ⟨S a, S b, rfl, rfl, q _ H _ o .refl (.bl _) k⟩
theorem o2_ixS {s : List Nat} {i : Int} {n : Nat} (hl : s.length ≤ 1000000) (h : atI s i = some n) (k : R (.str [n])) : Op2 K w1 w ρ rIxS (.str s) (.int i) R := fun c σ H u v o r1 r2 Q q => by
  cases r1; cases r2
  exact ⟨S s, i, n, rfl, rfl, by rw [S_len]; exact big hl, by rw [S_list]; exact h, q _ H _ o .refl (.str [n]) k⟩
/-- a slice -/
def cut {α : Type} (xs : List α) (lo hi : Option Int) : List α := (xs.drop (HT.sIx xs.length 0 lo)).take (HT.sIx xs.length xs.length hi - HT.sIx xs.length 0 lo)
theorem cutS_S (s : List Nat) (lo hi : Option Int) : cutS (S s) lo hi = S (cut s lo hi) := by
  unfold cutS cut
  rw [S_list, S_len]
def GO (K : KB) (ρ : LS) (to : TO) (RO : Option Int → Prop) : Prop := ∀ c σ H, Ok K c ρ σ H → ∀ Q : Option Int → Hp → Prop, (∀ o H2, Ok K c ρ σ H2 → Le c ρ σ H H2 → RO o → Q o H2) → to σ H Q
theorem go_no {RO : Option Int → Prop} (k : RO none) : GO K ρ tNoPart RO := fun c σ H o Q q => q none H o .refl k
theorem go_some {RO : Option Int → Prop} (h : G K true ρ te fun x => ∃ i, x = .int i ∧ RO (some i)) : GO K ρ (tPart te) RO := fun c σ H o Q q =>
  h c σ H o _ fun v H2 d o2 l r ⟨i, e, k⟩ => by
    subst e
    cases r
    exact ⟨i, rfl, q _ H2 o2 l k⟩
theorem g_slS {tl th : TO} (h : G K true ρ te fun x => ∃ s, x = .str s ∧ s.length ≤ 1000000 ∧ GO K ρ tl fun lo => GO K ρ th fun hi => R (.str (cut s lo hi))) : G K w ρ (tSl rSlS te tl th) R := fun c σ H o Q q =>
  h c σ H o _ fun v H2 d o2 l r ⟨s, e, hs, k⟩ => by
    subst e
    cases r
    refine k c σ H2 o2 _ fun lo H3 o3 l3 k3 => k3 c σ H3 o3 _ fun hi H4 o4 l4 k4 => ?_
    refine ⟨S s, rfl, by rw [S_len]; exact big hs, ?_⟩
    rw [cutS_S]
    exact q _ H4 _ o4 ((l.trans l3).trans l4) (.str _) k4
theorem cutV_rep {B : Hp} {xs : List V} {ds : List Dat} (r : RepL K B xs ds) (lo hi : Option Int) : RepL K B (cutV xs lo hi) (cut ds lo hi) := by
  unfold cutV cut
  rw [r.length]
  exact (r.drop _).take _
/-- xs[lo:hi], xs a list that is data -/
theorem g_slL {tl th : TO} (h : G K w ρ te fun x => ∃ s, x = .lst s ∧ GO K ρ tl fun lo => GO K ρ th fun hi => R (.lst (cut s lo hi))) : G K w ρ (tSl (rSlL K) te tl th) R := fun c σ H o Q q =>
  h c σ H o _ fun v H2 d o2 l r ⟨s, e, k⟩ => by
    subst e
    cases r with
    | @lst a xs _ ha rl =>
    refine k c σ H2 o2 _ fun lo H3 o3 l3 k3 => k3 c σ H3 o3 _ fun hi H4 o4 l4 k4 => ?_
    have e4 := (l3.trans l4).vw (w := w)
    refine ⟨a, xs, rfl, .inl (.inl (vw_le a _ (e4 a _ ha))), fun p hp => q _ _ _ (o4.ex (Ex.new hp)) (((l.trans l3).trans l4).trans (Ex.new hp).le) (.lst (o4.vw_new hp) ?_) k4⟩
    exact (cutV_rep (rl.mono e4) lo hi).mono (Le.vw (Ex.new hp).le)
/-- the script's slice -/
theorem g_slScr {tl th : TO} (h : G K w ρ te fun x => ∃ s, x = .scr s ∧ GO K ρ tl fun lo => GO K ρ th fun hi => R (.lst (cut (s.map Dat.int) lo hi))) : G K w ρ (tSl (rSlL K) te tl th) R := fun c σ H o Q q =>
  h c σ H o _ fun v H2 d o2 l r ⟨s, e, k⟩ => by
    subst e
    cases r with
    | @scr a ns ha =>
    refine k c σ H2 o2 _ fun lo H3 o3 l3 k3 => k3 c σ H3 o3 _ fun hi H4 o4 l4 k4 => ?_
    have e4 := (l3.trans l4).vw (w := w)
    refine ⟨a, _, rfl, ex_l vw_le (ex_l e4 ha), fun p hp => q _ _ _ (o4.ex (Ex.new hp)) (((l.trans l3).trans l4).trans (Ex.new hp).le) (.lst (o4.vw_new hp) ?_) k4⟩
    exact cutV_rep (RepL.ofInts s) lo hi
/-- t[lo:hi], not the whole -/
theorem g_slT {tl th : TO} (h : G K w ρ te fun x => ∃ s, x = .tup s ∧ GO K ρ tl fun lo => GO K ρ th fun hi => ¬ (HT.sIx s.length 0 lo = 0 ∧ HT.sIx s.length s.length hi = s.length) ∧ R (.tup (cut s lo hi))) : G K w ρ (tSl (rSlT K) te tl th) R := fun c σ H o Q q =>
  h c σ H o _ fun v H2 d o2 l r ⟨s, e, k⟩ => by
    subst e
    cases r with
    | @tup a xs _ ha rl =>
    refine k c σ H2 o2 _ fun lo H3 o3 l3 k3 => k3 c σ H3 o3 _ fun hi H4 o4 l4 k4 => ?_
    have e4 := (l3.trans l4).vw (w := w)
    refine ⟨a, xs, rfl, ex_t vw_le (ex_t e4 ha), by rw [rl.length]; exact k4.1, fun p hp => q _ _ _ (o4.ex (Ex.new hp)) (((l.trans l3).trans l4).trans (Ex.new hp).le) (.tup (.inl (.inl (o4.vw_new hp))) ?_) k4.2⟩
    exact (cutV_rep (rl.mono e4) lo hi).mono (Le.vw (Ex.new hp).le)

/-! ### subscripts -/
theorem o2_ixL {ds : List Dat} {i : Int} {d : Dat} (h : atI ds i = some d) (k : R d) : Op2 K w w ρ (rIxL K) (.lst ds) (.int i) R := fun c σ H u v o r1 r2 Q q => by
  cases r2
  cases r1 with
  | @lst a xs _ ha rl =>
  obtain ⟨j, hj, hd⟩ := Option.bind_eq_some_iff.mp h
  obtain ⟨y, hy, ry⟩ := rl.get hd
  refine ⟨a, xs, i, y, rfl, rfl, .inl (.inl (vw_le a _ ha)), ?_, q _ H _ o .refl ry k⟩
  unfold atI
  rw [rl.length, hj]
  exact hy
theorem o2_ixScr {ns : List Int} {i n : Int} (h : atI ns i = some n) (k : R (.int n)) : Op2 K w1 w ρ (rIxL K) (.scr ns) (.int i) R := fun c σ H u v o r1 r2 Q q => by
  cases r2
  cases r1 with
  | @scr a _ ha =>
  obtain ⟨j, hj, hd⟩ := Option.bind_eq_some_iff.mp h
  refine ⟨a, _, i, .int n, rfl, rfl, ex_l vw_le ha, ?_, q _ H _ o .refl (.int _) k⟩
  unfold atI
  rw [List.length_map, hj]
  show (ns.map V.int)[j]? = _
  rw [List.getElem?_map, hd]
  rfl
theorem o2_ixT {ds : List Dat} {i : Int} {d : Dat} (h : atI ds i = some d) (k : R d) : Op2 K w w ρ (rIxT K) (.tup ds) (.int i) R := fun c σ H u v o r1 r2 Q q => by
  cases r2
  cases r1 with
  | @tup a xs _ ha rl =>
  obtain ⟨j, hj, hd⟩ := Option.bind_eq_some_iff.mp h
  obtain ⟨y, hy, ry⟩ := rl.get hd
  refine ⟨a, xs, i, y, rfl, rfl, ex_t vw_le ha, ?_, q _ H _ o .refl ry k⟩
  unfold atI
  rw [rl.length, hj]
  exact hy
/-- an own list's item -/
theorem g_ixO {i : Nat} {ds : List Dat} (he : ρ[i]? = some (.own ds)) (h : G K true ρ tb fun y => ∃ k d, y = .int k ∧ atI ds k = some d ∧ R d) : G K w ρ (tOp (rIxL K) (tVar i) tb) R := fun c σ H o Q q => by
  obtain ⟨v, e, a, xs, rfl, ha, rl⟩ := o.get he
  refine ⟨_, e, h c σ H o _ fun v H2 d o2 l r ⟨k, d', e2, hk, kr⟩ => ?_⟩
  subst e2
  cases r
  obtain ⟨v', e', a', xs', q1, ha', rl'⟩ := o2.get he
  rw [e] at e'
  cases e'
  cases q1
  obtain ⟨j, hj, hd⟩ := Option.bind_eq_some_iff.mp hk
  obtain ⟨y, hy, ry⟩ := rl'.get hd
  refine ⟨a, xs', k, y, rfl, rfl, .inl (.inl ha'), ?_, q _ H2 _ o2 l (ry.mono vw_up2) kr⟩
  unfold atI
  rw [rl'.length, hj]
  exact hy

/-! ### equality -/
theorem o2_eqI {i j : Int} (k : R (.bl (decide (i = j)))) : Op2 K w1 w ρ rEq (.int i) (.int j) R := fun c σ H u v o r1 r2 Q q => by
  cases r1; cases r2
  refine ⟨rfl, ?_⟩
  have : decide (V.int i = V.int j) = decide (i = j) := by
    by_cases h : i = j
    · rw [decide_eq_true h, decide_eq_true (by rw [h])]
    · rw [decide_eq_false h, decide_eq_false fun e => h (V.int.inj e)]
  rw [this]
  exact q _ H _ o .refl (.bl _) k
theorem o2_neI {i j : Int} (k : R (.bl (!decide (i = j)))) : Op2 K w1 w ρ rNe (.int i) (.int j) R := fun c σ H u v o r1 r2 Q q => by
  cases r1; cases r2
  refine ⟨rfl, ?_⟩
  have : decide (V.int i = V.int j) = decide (i = j) := by
    by_cases h : i = j
    · rw [decide_eq_true h, decide_eq_true (by rw [h])]
    · rw [decide_eq_false h, decide_eq_false fun e => h (V.int.inj e)]
  rw [this]
  exact q _ H _ o .refl (.bl _) k
theorem o2_eqS {i j : List Nat} (k : R (.bl (decide (i = j)))) : Op2 K w1 w ρ rEq (.str i) (.str j) R := fun c σ H u v o r1 r2 Q q => by
  cases r1; cases r2
  refine ⟨rfl, ?_⟩
  rw [S_dec]
  exact q _ H _ o .refl (.bl _) k
theorem o2_neS {i j : List Nat} (k : R (.bl (!decide (i = j)))) : Op2 K w1 w ρ rNe (.str i) (.str j) R := fun c σ H u v o r1 r2 Q q => by
  cases r1; cases r2
  refine ⟨rfl, ?_⟩
  rw [S_dec]
  exact q _ H _ o .refl (.bl _) k
theorem o2_eqB {i j : Bool} (k : R (.bl (decide (i = j)))) : Op2 K w1 w ρ rEq (.bl i) (.bl j) R := fun c σ H u v o r1 r2 Q q => by
  cases r1; cases r2
  refine ⟨rfl, ?_⟩
  have : decide (V.bl i = V.bl j) = decide (i = j) := by cases i <;> cases j <;> rfl
  rw [this]
  exact q _ H _ o .refl (.bl _) k
theorem o2_neB {i j : Bool} (k : R (.bl (!decide (i = j)))) : Op2 K w1 w ρ rNe (.bl i) (.bl j) R := fun c σ H u v o r1 r2 Q q => by
  cases r1; cases r2
  refine ⟨rfl, ?_⟩
  have : decide (V.bl i = V.bl j) = decide (i = j) := by cases i <;> cases j <;> rfl
  rw [this]
  exact q _ H _ o .refl (.bl _) k
theorem o2_neSN {i : List Nat} (k : R (.bl true)) : Op2 K w1 w ρ rNe (.str i) .non R := fun c σ H u v o r1 r2 Q q => by
  cases r1; cases r2
  exact ⟨rfl, q _ H _ o .refl (.bl _) k⟩
mutual
def toP : Dat → PyData
  | .bl b => .bool b
  | .int i => .int i
  | .str w => .str (S w)
  | .tup ds => .tuple (toPs ds)
  | .lst ds => .list (toPs ds)
  | _ => .none
def toPs : List Dat → List PyData
  | [] => []
  | d :: ds => toP d :: toPs ds
end
mutual
/-- plain data -/
def pln : Dat → Bool
  | .non => true
  | .bl _ => true
  | .int _ => true
  | .str _ => true
  | .tup ds => plnL ds
  | .lst ds => plnL ds
  | _ => false
def plnL : List Dat → Bool
  | [] => true
  | d :: ds => pln d && plnL ds
end
theorem dp_of {B : Hp} : ∀ v d, Rep K B v d → pln d = true → Dp K B v (toP d) := fun v d h =>
  Rep.rec (motive_1 := fun v d _ => pln d = true → Dp K B v (toP d)) (motive_2 := fun v d _ => plnL d = true → DpAll K B v (toPs d)) (motive_3 := fun v d _ => True) (motive_4 := fun v d _ => True) (motive_5 := fun v d _ => True)
    (fun _ => .non) (fun b _ => .bl b) (fun i _ => .int i) (fun x _ => .str _) (fun s _ i hi => .tup s (i hi)) (fun s _ i hi => .lst (.inl (.inl s)) (i hi)) (fun s hi => by cases hi) (fun s _ i hi => by cases hi) (fun s _ i hi => by cases hi) (fun s _ i hi => by cases hi) (fun s _ i hi => by cases hi) (fun _ hi => by cases hi)
    (fun _ => .nil) (fun _ _ i j hi => by
      unfold plnL at hi
      rw [Bool.and_eq_true] at hi
      exact .cons (i hi.1) (j hi.2)) trivial (fun _ _ _ _ => trivial) trivial (fun _ _ _ _ => trivial) trivial (fun _ _ _ _ => trivial) h
theorem Dp.monoL {B B' : Hp} (e : Ex B B') : ∀ v d, Dp K B v d → Dp K B' v d := fun v d h =>
  Dp.rec (motive_1 := fun v d _ => Dp K B' v d) (motive_2 := fun v d _ => DpAll K B' v d) .non .bl .int .str (fun s _ i => .lst (ex_l e s) i) (fun s _ i => .tup (ex_t e s) i) .nil (fun _ _ i j => .cons i j) h
/-- == of data -/
def deq (x y : Dat) : Bool := PyData.eqv (toP x) (toP y)
def shp (x : Dat) : Bool := pln x && SeqAt.shaped (toP x)
theorem o2_eqD {x y : Dat} (hx : shp x = true) (hy : shp y = true) (k : R (.bl (deq x y))) : Op2 K w1 w ρ (rEqD K) x y R := fun c σ H u v o r1 r2 Q q => by
  unfold shp at hx hy
  rw [Bool.and_eq_true] at hx hy
  exact ⟨toP x, toP y, Dp.monoL vw_le _ _ (dp_of _ _ r1 hx.1), Dp.monoL vw_le _ _ (dp_of _ _ r2 hy.1), hx.2, hy.2, q _ H _ o .refl (.bl _) k⟩
theorem o2_neD {x y : Dat} (hx : shp x = true) (hy : shp y = true) (k : R (.bl (!deq x y))) : Op2 K w1 w ρ (rNeD K) x y R := fun c σ H u v o r1 r2 Q q => by
  unfold shp at hx hy
  rw [Bool.and_eq_true] at hx hy
  exact ⟨toP x, toP y, Dp.monoL vw_le _ _ (dp_of _ _ r1 hx.1), Dp.monoL vw_le _ _ (dp_of _ _ r2 hy.1), hx.2, hy.2, q _ H _ o .refl (.bl _) k⟩
/-- in a list of data -/
theorem o2_inD {x : Dat} {ds : List Dat} (hx : shp x = true) (hy : shp (.lst ds) = true) (k : R (.bl ((toPs ds).any fun z => PyData.eqv z (toP x)))) : Op2 K w1 w ρ (rInD K) x (.lst ds) R := fun c σ H u v o r1 r2 Q q => by
  unfold shp at hx hy
  rw [Bool.and_eq_true] at hx hy
  exact ⟨toP x, toPs ds, Dp.monoL vw_le _ _ (dp_of _ _ r1 hx.1), Dp.monoL vw_le _ _ (dp_of _ _ r2 hy.1), hx.2, hy.2, q _ H _ o .refl (.bl _) k⟩
theorem o2_notInD {x : Dat} {ds : List Dat} (hx : shp x = true) (hy : shp (.lst ds) = true) (k : R (.bl (!(toPs ds).any fun z => PyData.eqv z (toP x)))) : Op2 K w1 w ρ (rNotInD K) x (.lst ds) R := fun c σ H u v o r1 r2 Q q => by
  unfold shp at hx hy
  rw [Bool.and_eq_true] at hx hy
  exact ⟨toP x, toPs ds, Dp.monoL vw_le _ _ (dp_of _ _ r1 hx.1), Dp.monoL vw_le _ _ (dp_of _ _ r2 hy.1), hx.2, hy.2, q _ H _ o .refl (.bl _) k⟩

/-! ### is None -/
def rIsN (neg : Bool) : R2 := fun x y H Q => y = .non ∧ Q (.bl (if neg then !decide (x = .non) else decide (x = .non))) H
theorem op_isN_ {X : Cx} : OpR X (compareOp .Is) (rIsN false) := op_isN
theorem op_notN_ {X : Cx} : OpR X (compareOp .IsNot) (rIsN true) := op_notN
def isNon : Dat → Bool
  | .non => true
  | _ => false
theorem o2_isN {neg : Bool} {x : Dat} (hx : ∀ v, x ≠ .oth v) (k : R (.bl (if neg then !isNon x else isNon x))) : Op2 K w1 w ρ (rIsN neg) x .non R := fun c σ H u v o r1 r2 Q q => by
  cases r2
  refine ⟨rfl, ?_⟩
  have : decide (u = V.non) = isNon x := by
    cases r1 <;> first | rfl | exact absurd rfl (hx _)
  rw [this]
  exact q _ H _ o .refl (.bl _) k

/-! ### lists made -/
theorem o2_cat {xs ys : List Dat} (hl : xs.length + ys.length ≤ 1000000) (k : R (.lst (xs ++ ys))) : Op2 K w w ρ rCat (.lst xs) (.lst ys) R := fun c σ H u v o r1 r2 Q q => by
  cases r1 with
  | @lst a us _ ha ra =>
  cases r2 with
  | @lst b vs _ hb rb =>
  exact ⟨a, b, us, vs, rfl, rfl, vw_le a _ ha, vw_le b _ hb, by rw [ra.length, rb.length]; exact big hl, fun p hp => q _ _ _ (o.ex (Ex.new hp)) (Ex.new hp).le (.lst (o.vw_new hp) ((ra.append rb).mono (Le.vw (Ex.new hp).le))) k⟩
theorem rep_flat {α : Type} {xs : List α} : ∀ n : Nat, (List.replicate n xs).flatten.length = n * xs.length
  | 0 => by simp
  | n + 1 => by rw [List.replicate_succ, List.flatten_cons, List.length_append, rep_flat n, Nat.succ_mul, Nat.add_comm]
end
end BV

end

section
set_option maxHeartbeats 4000000
namespace BV
open PySem L2

/-- what is walked: items ds -/
def GI (K : KB) (w : Bool) (ρ : LS) (wi : TI) (R : List Dat → Prop) : Prop := ∀ c σ H, Ok K c ρ σ H → ∀ RK : It → Hp → Prop,
  (∀ J H2 n G Y ds, Ok K c ρ σ H2 → Le c ρ σ H H2 → Walk J n G Y → ds.length = n → (∀ H3, Ex (vw c w ρ σ H2) H3 → G H3) →
    (∀ i H3 x H' c' ρ' σ', i < n → Ok K c' ρ' σ' H3 → Ex (vw c w ρ σ H2) (sv c' ρ' σ' H3) → Y i H3 x H' → ∃ d, ds[i]? = some d ∧ Ok K c' ρ' σ' H' ∧ Ex H3 H' ∧ Rep K (sv c' ρ' σ' H') x d) → R ds → RK J H2) → wi σ H RK
section
variable {K : KB} {w : Bool} {ρ : LS} {ta te tl : TE} {RI : List Dat → Prop}
theorem gi_list (h : G K w ρ tl fun d => ∃ ds, d = .lst ds ∧ RI ds) : GI K w ρ (iList K tl) RI := fun c σ H o RK q =>
  h c σ H o _ fun v H2 d o2 l r ⟨ds, e, k⟩ => by
    subst e
    cases r with
    | @lst a xs _ ha rl =>
    refine ⟨a, rfl, ⟨xs, .inl (.inl (vw_le a _ ha))⟩, q _ H2 _ _ _ ds o2 l (walk_list (xs := xs)) rl.length.symm (fun H3 e => .inl (.inl (e a _ ha))) (fun i H3 x H' c' ρ' σ' hi o3 e y => ?_) k⟩
    obtain ⟨y1, y2⟩ := y
    subst y1
    obtain ⟨d, e1, r1⟩ := rl.get' y2
    exact ⟨d, e1, o3, Ex.refl _, r1.mono e⟩
theorem gi_scr (h : G K w ρ tl fun d => ∃ ns, d = .scr ns ∧ RI (ns.map Dat.int)) : GI K w ρ (iList K tl) RI := fun c σ H o RK q =>
  h c σ H o _ fun v H2 d o2 l r ⟨ds, e, k⟩ => by
    subst e
    cases r with
    | @scr a ns ha =>
    refine ⟨a, rfl, ⟨_, ex_l vw_le ha⟩, q _ H2 _ _ _ _ o2 l (walk_list (xs := ds.map V.int)) (by simp) (fun H3 e => ?_) (fun i H3 x H' c' ρ' σ' hi o3 e y => ?_) k⟩
    · rcases ha with ha | ha
      · exact .inl (ex_rd e ha)
      · exact .inr ha
    · obtain ⟨y1, y2⟩ := y
      subst y1
      obtain ⟨d, e1, r1⟩ := (RepL.ofInts (K := K) (B := sv c' ρ' σ' H') ds).get' y2
      exact ⟨d, e1, o3, Ex.refl _, r1⟩
theorem gi_tup (h : G K w ρ tl fun d => ∃ ds, d = .tup ds ∧ RI ds) : GI K w ρ (iTup K tl) RI := fun c σ H o RK q =>
  h c σ H o _ fun v H2 d o2 l r ⟨ds, e, k⟩ => by
    subst e
    cases r with
    | @tup a xs _ ha rl =>
    refine ⟨a, rfl, ⟨xs, ex_t vw_le ha⟩, q _ H2 _ _ _ ds o2 l (walk_tup (xs := xs)) rl.length.symm (fun H3 e => ex_t e ha) (fun i H3 x H' c' ρ' σ' hi o3 e y => ?_) k⟩
    obtain ⟨y1, y2⟩ := y
    subst y1
    obtain ⟨d, e1, r1⟩ := rl.get' y2
    exact ⟨d, e1, o3, Ex.refl _, r1.mono e⟩
theorem gi_str (h : G K true ρ te fun d => ∃ s, d = .str s ∧ RI (s.map fun n => .str [n])) : GI K w ρ (iStr te) RI := fun c σ H o RK q =>
  h c σ H o _ fun v H2 d o2 l r ⟨s, e, k⟩ => by
    subst e
    cases r
    refine ⟨S s, rfl, q _ H2 _ _ _ _ o2 l walk_str (by simp) (fun H3 e => trivial) (fun i H3 x H' c' ρ' σ' hi o3 e y => ?_) k⟩
    obtain ⟨y1, n, y2, y3⟩ := y
    subst y1 y3
    refine ⟨.str [n], ?_, o3, Ex.refl _, .str [n]⟩
    have y4 : s[i]? = some n := by simpa using y2
    rw [List.getElem?_map, y4]
    rfl
/-- the ints lo, lo + 1, .. -/
def rngI (lo : Int) (n : Nat) : List Dat := (List.range n).map fun (i : Nat) => Dat.int (lo + (i : Int))
theorem rngI_len (lo : Int) (n : Nat) : (rngI lo n).length = n := by unfold rngI; simp
theorem rngI_get {lo : Int} {n i : Nat} (h : i < n) : (rngI lo n)[i]? = some (.int (lo + (i : Int))) := by
  unfold rngI
  rw [List.getElem?_map, List.getElem?_range h]
  rfl
theorem rngI_get' {lo : Int} {n i : Nat} {d : Dat} (h : (rngI lo n)[i]? = some d) : i < n ∧ d = .int (lo + (i : Int)) := by
  have hi : i < n := by
    have := (List.getElem?_eq_some_iff.mp h).1
    rw [rngI_len] at this
    exact this
  rw [rngI_get hi] at h
  exact ⟨hi, (Option.some.inj h).symm⟩
theorem gi_rng1 {t : TA} (h : GA K true ρ t fun xs => ∃ j : Int, xs = [.int j] ∧ -(2 ^ 62) ≤ j ∧ j < 2 ^ 62 ∧ RI (rngI 0 j.toNat)) : GI K w ρ (iRng1 t) RI := fun c σ H o RK q =>
  h c σ H o _ fun vs H2 ds o2 l r ⟨j, e, h1, h2, k⟩ => by
    subst e
    cases r with
    | cons r1 r2 =>
    cases r1
    cases r2
    refine ⟨j, rfl, h1, h2, q _ H2 _ _ _ _ o2 l walk_range (rngI_len _ _) (fun H3 e => trivial) (fun i H3 x H' c' ρ' σ' hi o3 e y => ?_) k⟩
    obtain ⟨y1, y2⟩ := y
    subst y1 y2
    exact ⟨_, rngI_get hi, o3, Ex.refl _, .int _⟩
theorem gi_rng2 {t : TA} (h : GA K true ρ t fun xs => ∃ i j : Int, xs = [.int i, .int j] ∧ (-(2 ^ 62) ≤ i ∧ i < 2 ^ 62 ∧ -(2 ^ 62) ≤ j ∧ j < 2 ^ 62) ∧ RI (rngI i (j - i).toNat)) : GI K w ρ (iRng2 t) RI := fun c σ H o RK q =>
  h c σ H o _ fun vs H2 ds o2 l r ⟨i, j, e, h1, k⟩ => by
    subst e
    cases r with
    | cons r1 r2 =>
    cases r2 with
    | cons r2 r3 =>
    cases r1
    cases r2
    cases r3
    refine ⟨i, j, rfl, h1, q _ H2 _ _ _ _ o2 l walk_range (rngI_len _ _) (fun H3 e => trivial) (fun i H3 x H' c' ρ' σ' hi o3 e y => ?_) k⟩
    obtain ⟨y1, y2⟩ := y
    subst y1 y2
    exact ⟨_, rngI_get hi, o3, Ex.refl _, .int _⟩
/-- the ints lo, lo + c, .. -/
def rngC (lo st : Int) (n : Nat) : List Dat := (List.range n).map fun (i : Nat) => Dat.int (lo + (i : Int) * st)
theorem rngC_len (lo st : Int) (n : Nat) : (rngC lo st n).length = n := by unfold rngC; simp
theorem rngC_get' {lo st : Int} {n i : Nat} {d : Dat} (h : (rngC lo st n)[i]? = some d) : i < n ∧ d = .int (lo + (i : Int) * st) := by
  have hi : i < n := by
    have := (List.getElem?_eq_some_iff.mp h).1
    rw [rngC_len] at this
    exact this
  unfold rngC at h
  rw [List.getElem?_map, List.getElem?_range hi] at h
  exact ⟨hi, (Option.some.inj h).symm⟩
theorem gi_rng3 {t : TA} (h : GA K true ρ t fun xs => ∃ (i j st : Int) (n : Nat), xs = [.int i, .int j, .int st] ∧ RgC i j st n ∧ RI (rngC i st n)) : GI K w ρ (iRng3 t) RI := fun c σ H o RK q =>
  h c σ H o _ fun vs H2 ds o2 l r ⟨i, j, st, n, e, h1, k⟩ => by
    subst e
    cases r with
    | cons r1 r2 =>
    cases r2 with
    | cons r2 r3 =>
    cases r3 with
    | cons r3 r4 =>
    cases r1
    cases r2
    cases r3
    cases r4
    refine ⟨i, j, st, n, rfl, h1, q _ H2 _ _ _ _ o2 l walk_rangeC (rngC_len _ _ _) (fun H3 e => trivial) (fun i H3 x H' c' ρ' σ' hi o3 e y => ?_) k⟩
    obtain ⟨y1, y2⟩ := y
    subst y1 y2
    refine ⟨_, ?_, o3, Ex.refl _, .int _⟩
    unfold rngC
    rw [List.getElem?_map, List.getElem?_range hi]
    rfl
end

section
variable {K : KB} {w : Bool} {ρ : LS} {t u : TS} {N : LS → Prop} {R : Ret → LS → Prop} {B C : LS → Prop}
/-- THE for -/
theorem run_for {wi : TI} {g : TG} {tb : TS} (h : GI K false ρ wi fun ds => ∃ W : Nat → LS → Prop, W 0 ρ ∧ (∀ i x ρ', ds[i]? = some x → W i ρ' → GG K ρ' g x fun ρ2 => Run K ρ2 tb (W (i + 1)) R N (W (i + 1))) ∧ ∀ ρ', W ds.length ρ' → N ρ') :
    Run K ρ (tFor wi g tb) N R B C := fun c D is σ H o => by
  refine h c σ H o _ fun J H2 n G Y ds o2 l wk hn hG hY hh => ?_
  obtain ⟨W, h0, hs, hd⟩ := hh
  obtain ⟨c', hP, hx, o3, hf⟩ := o2.fix
  refine for_it wk (fun i σ' H' => ∃ ρ', Ok K c' ρ' σ' H' ∧ W i ρ') ⟨ρ, o3, h0⟩ (fun i σ' H' _ ⟨ρ', o', _⟩ => hG H' ((hf ρ' σ' H' o').2.trans vw_le)) (fun i x σ' H3 H' hi ⟨ρ', o', w'⟩ y => ?_) fun σ' H' ⟨ρ', o', w'⟩ => ?_
  · obtain ⟨d, e1, o4, e4, r1⟩ := hY i H3 x H' c' ρ' σ' hi o' (by rw [sv_P hP]; exact (hf ρ' σ' H3 o').2) y
    refine hs i d ρ' e1 w' c' σ' H' x o4 r1 _ fun ρ2 σ2 o5 _ k => ?_
    exact k c' { D with nx := fun σ H => ∃ ρ', Ok K c' ρ' σ H ∧ W (i + 1) ρ', ct := fun σ H => ∃ ρ', Ok K c' ρ' σ H ∧ W (i + 1) ρ', bk := D.nx } ⟨fun ρ σ H o w => ⟨ρ, o, w⟩, fun ρ σ H v d o r w => is.rt ρ σ H v d (hf ρ σ H o).1 (by rw [sv_P hP] at r; exact r) w, fun ρ σ H a s o h r hp w => is.rn ρ σ H a s (hf ρ σ H o).1 ((hx a) h) (by rw [sv_P hP] at r; exact r) hp w, fun ρ σ H o w => is.nx ρ σ H (hf ρ σ H o).1 w, fun ρ σ H o w => ⟨ρ, o, w⟩⟩ σ2 H' o5
  · rw [← hn] at w'
    exact is.nx ρ' σ' H' (hf ρ' σ' H' o').1 (hd ρ' w')

/-! ### comprehensions -/
def wipeS (ρ : LS) : List Nat → LS
  | [] => ρ
  | v :: vs => (wipeS ρ vs).set v .no
/-- slots off vs as they are, those of vs keep nothing private -/
structure Off (vs : List Nat) (ρ : LS) (σ : St) (ρ' : LS) (σ' : St) : Prop where
  l1 : ρ'.length = ρ.length
  l2 : σ'.length = σ.length
  eq : ∀ i, i ∉ vs → ρ'[i]? = ρ[i]? ∧ σ'[i]? = σ[i]?
  np : ∀ i, i ∈ vs → ∀ s, ρ'[i]? = some s → ∀ v, pa s v = none
theorem Off.trans {vs : List Nat} {ρ ρ1 ρ2 : LS} {σ σ1 σ2 : St} (a : Off vs ρ σ ρ1 σ1) (b : Off vs ρ1 σ1 ρ2 σ2) : Off vs ρ σ ρ2 σ2 :=
  ⟨b.l1.trans a.l1, b.l2.trans a.l2, fun i hi => ⟨(b.eq i hi).1.trans (a.eq i hi).1, (b.eq i hi).2.trans (a.eq i hi).2⟩, b.np⟩
theorem Off.set {vs : List Nat} {ρ ρ1 : LS} {σ σ1 : St} (a : Off vs ρ σ ρ1 σ1) {j : Nat} (hj : j ∈ vs) {s : Slot} {v : Option V} (hp : ∀ v, pa s v = none) : Off vs ρ σ (ρ1.set j s) (σ1.set j v) := by
  refine ⟨by rw [List.length_set]; exact a.l1, by rw [List.length_set]; exact a.l2, fun i hi => ?_, fun i hi s' h => ?_⟩
  · have n : j ≠ i := fun e => hi (e ▸ hj)
    rw [List.getElem?_set_ne n, List.getElem?_set_ne n]
    exact a.eq i hi
  · rcases set_get h with ⟨_, e, _⟩ | ⟨_, e⟩
    · rw [e]; exact hp
    · exact a.np i hi s' e
theorem wipe_ext {σ σ' : St} : ∀ {vs : List Nat}, σ'.length = σ.length → (∀ i, i ∉ vs → σ'[i]? = σ[i]?) → wipe σ' vs = wipe σ vs := fun {vs} hl he => by
  apply List.ext_getElem?
  intro i
  by_cases hi : i ∈ vs
  · have key : ∀ (τ : St) (vs : List Nat), i ∈ vs → i < τ.length → (wipe τ vs)[i]? = some none := by
      intro τ vs
      induction vs with
      | nil => intro h; cases h
      | cons v vs ih =>
        intro h hl
        show ((wipe τ vs).set v none)[i]? = some none
        by_cases e : v = i
        · subst e
          exact List.getElem?_set_self (by rw [wipe_length]; exact hl)
        · rw [List.getElem?_set_ne e]
          rcases List.mem_cons.mp h with z | z
          · exact absurd z.symm e
          · exact ih z hl
    by_cases hlt : i < σ.length
    · rw [key σ' vs hi (by omega), key σ vs hi hlt]
    · rw [List.getElem?_eq_none (by rw [wipe_length]; omega), List.getElem?_eq_none (by rw [wipe_length]; omega)]
  · have key : ∀ (τ : St) (vs : List Nat), i ∉ vs → (wipe τ vs)[i]? = τ[i]? := by
      intro τ vs
      induction vs with
      | nil => intro _; rfl
      | cons v vs ih =>
        intro h
        have n1 : v ≠ i := fun e => h (by rw [e]; exact List.mem_cons_self)
        show ((wipe τ vs).set v none)[i]? = τ[i]?
        rw [List.getElem?_set_ne n1]
        exact ih fun z => h (List.mem_cons_of_mem _ z)
    rw [key σ' vs hi, key σ vs hi, he i hi]
theorem Off.wipe {ρ : LS} {σ : St} : ∀ {vs : List Nat}, (∀ i, i ∈ vs → ∀ s, ρ[i]? = some s → ∀ v, pa s v = none) → Off vs ρ σ (wipeS ρ vs) (L2.wipe σ vs) := fun {vs} h => by
  have key : ∀ us : List Nat, (∀ i, i ∈ us → i ∈ vs) → Off vs ρ σ (wipeS ρ us) (L2.wipe σ us) := by
    intro us
    induction us with
    | nil => intro _; exact ⟨rfl, rfl, fun _ _ => ⟨rfl, rfl⟩, h⟩
    | cons u us ih => intro hs; exact (ih fun i hi => hs i (List.mem_cons_of_mem _ hi)).set (hs u List.mem_cons_self) fun v => rfl
  exact key vs fun _ h => h
/-- a block's target -/
def GC (K : KB) (vs : List Nat) (ρ : LS) (g : TG) (x : Dat) (k : LS → Prop) : Prop := ∀ c σ H v, Ok K c ρ σ H → Rep K (sv c ρ σ H) v x → ∀ Q : St → Hp → Prop, (∀ ρ' σ', Ok K c ρ' σ' H → Ex (sv c ρ σ H) (sv c ρ' σ' H) → (∀ ρ0 σ0, Off vs ρ0 σ0 ρ σ → Off vs ρ0 σ0 ρ' σ') → k ρ' → Q σ' H) → g v σ H Q
def GCs (K : KB) (vs : List Nat) (ρ : LS) (g : TGs) (xs : List Dat) (k : LS → Prop) : Prop := ∀ c σ H us, Ok K c ρ σ H → RepL K (sv c ρ σ H) us xs → ∀ Q : St → Hp → Prop, (∀ ρ' σ', Ok K c ρ' σ' H → Ex (sv c ρ σ H) (sv c ρ' σ' H) → (∀ ρ0 σ0, Off vs ρ0 σ0 ρ σ → Off vs ρ0 σ0 ρ' σ') → k ρ' → Q σ' H) → g us σ H Q
theorem gc_name {vs : List Nat} {k : LS → Prop} {i : Nat} {x : Dat} (hi : i ∈ vs) (h : k (ρ.set i (.d x))) : GC K vs ρ (gName i) x k := fun c σ H v o r Q q =>
  q _ _ (o.setD (s := .d x) (v := some v) rfl ⟨v, rfl, r⟩) (ex_setD (s := .d x) rfl) (fun ρ0 σ0 f => f.set hi fun _ => rfl) h
theorem gcs_nil {vs : List Nat} {k : LS → Prop} (h : k ρ) : GCs K vs ρ gNil [] k := fun c σ H us o r Q q => by
  cases r
  exact ⟨rfl, q ρ σ o (Ex.refl _) (fun _ _ f => f) h⟩
theorem gcs_cons {vs : List Nat} {k : LS → Prop} {g : TG} {gs : TGs} {x : Dat} {xs : List Dat} (h : GC K vs ρ g x fun ρ1 => GCs K vs ρ1 gs xs k) : GCs K vs ρ (gCons g gs) (x :: xs) k := fun c σ H us o r Q q => by
  cases r with
  | cons r1 r2 => exact ⟨_, _, rfl, h c σ H _ o r1 _ fun ρ1 σ1 o1 e1 f1 h1 => h1 c σ1 H _ o1 (r2.mono e1) Q fun ρ2 σ2 o2 e2 f2 h2 => q ρ2 σ2 o2 (e1.trans e2) (fun ρ0 σ0 f => f2 ρ0 σ0 (f1 ρ0 σ0 f)) h2⟩
theorem gc_tup {vs : List Nat} {k : LS → Prop} {n : Nat} {gs : TGs} {xs : List Dat} (hn : xs.length = n) (h : GCs K vs ρ gs xs k) : GC K vs ρ (gTup K n gs) (.tup xs) k := fun c σ H v o r Q q => by
  cases r with
  | tup s rl => exact ⟨_, _, rfl, ex_t vw_le s, by rw [rl.length]; exact hn, h c σ H _ o rl Q q⟩

/-- P and one address more -/
def Bc.plus (c : Bc) (a : Addr) : Bc := ⟨fun b => c.P b ∨ b = a, c.X, c.H0⟩
section
variable {c : Bc} {σ : St} {H H2 : Hp} {a : Addr}
theorem minus_ex {c : Bc} {ρ : LS} {σ : St} {H : Hp} {a : Addr} : Ex (sv (c.plus a) ρ σ H) (sv c ρ σ H) := hid_ex fun b o hb e => ⟨fun z => hb (z.imp .inl id), e⟩
theorem Ok0.minus {K : PySem.W.Frag} {ρ : LS} (k : Ok0 K (c.plus a) ρ σ H) : Ok0 K c ρ σ H := by
  exact ⟨k.len, fun i s v h1 h2 => (k.sl i s v h1 h2).mono minus_ex fun _ _ _ h => h, k.inj, fun b h z => k.np b h (.inl z), k.fr, k.xs, fun b z => k.pt b (.inl z)⟩
theorem XOk.plus (x : XOk K c) : XOk K (c.plus a) := x.tr (fun ρ σ H o => o.minus) fun ρ σ H => minus_ex
theorem Ok.plus (k : Ok K c ρ σ H) (n : H a = none) {o : HO} : Ok K (c.plus a) ρ σ (upd H a o) := by
  have k2 := k.ex (Ex.new (o := o) n)
  have npr : ∀ b, Pr ρ σ b → b ≠ a := fun b h e => by
    obtain ⟨o', e', _⟩ := k.tr h
    rw [e, n] at e'
    cases e'
  have ev : Ex (sv c ρ σ H) (sv (c.plus a) ρ σ (upd H a o)) := hid_ex fun b o' hb e => by
    have nb : b ≠ a := fun z => by rw [z, n] at e; cases e
    refine ⟨fun z => ?_, by rw [upd_ne nb]; exact e⟩
    rcases z with (z | z) | z
    · exact hb (.inl z)
    · exact nb z
    · exact hb (.inr z)
  refine ⟨⟨k.len, fun i s v h1 h2 => (k.sl i s v h1 h2).mono ev fun b o' hb hh => by rw [upd_ne (npr b ⟨i, s, v, h1, h2, hb⟩)]; exact hh, k.inj, fun b h z => ?_, k2.fr, k.xs, fun b z => ?_⟩, k.xo.plus⟩
  · rcases z with z | z
    · exact k.np b h z
    · exact npr b h z
  · rcases z with z | z
    · exact k2.pt b z
    · exact ⟨o, by rw [z, upd_same]⟩
/-- the hidden address is written -/
theorem Ok.plusW (k : Ok K (c.plus a) ρ σ H) (n0 : c.H0 a = none) {o : HO} : Ok K (c.plus a) ρ σ (upd H a o) := by
  have ev : Ex (sv (c.plus a) ρ σ H) (sv (c.plus a) ρ σ (upd H a o)) := hid_ex fun b o' hb e => ⟨hb, by rw [upd_ne fun z => hb (.inl (.inr z))]; exact e⟩
  refine ⟨⟨k.len, fun i s v h1 h2 => (k.sl i s v h1 h2).mono ev fun b o' hb hh => by rw [upd_ne fun z => k.np b ⟨i, s, v, h1, h2, hb⟩ (.inr z)]; exact hh, k.inj, k.np, fun b o' h1 h2 => ?_, k.xs, fun b z => ?_⟩, k.xo⟩
  · have nb : b ≠ a := fun z => by
      rw [z] at h2
      change c.H0 a = some o' at h2
      rw [n0] at h2
      cases h2
    rw [upd_ne nb]
    exact k.fr b o' h1 h2
  · by_cases e : b = a
    · exact ⟨o, by rw [e, upd_same]⟩
    · obtain ⟨o', e'⟩ := k.pt b z
      exact ⟨o', by rw [upd_ne e]; exact e'⟩
theorem Off.fr {vs : List Nat} {ρ' : LS} {σ' : St} (f : Off vs ρ σ ρ' σ') (hn : ∀ i, i ∈ vs → ∀ s, ρ[i]? = some s → ∀ v, pa s v = none) {b : Addr} : Fr ρ' σ' b ↔ Fr ρ σ b := by
  constructor
  · rintro ⟨i, s, v, h1, h2, h3⟩
    by_cases hi : i ∈ vs
    · have := f.np i hi s h1 v
      rw [fa_pa h3] at this
      cases this
    · exact ⟨i, s, v, by rw [← (f.eq i hi).1]; exact h1, by rw [← (f.eq i hi).2]; exact h2, h3⟩
  · rintro ⟨i, s, v, h1, h2, h3⟩
    by_cases hi : i ∈ vs
    · have := hn i hi s h1 v
      rw [fa_pa h3] at this
      cases this
    · exact ⟨i, s, v, by rw [(f.eq i hi).1]; exact h1, by rw [(f.eq i hi).2]; exact h2, h3⟩
theorem Off.pr {vs : List Nat} {ρ' : LS} {σ' : St} (f : Off vs ρ σ ρ' σ') (hn : ∀ i, i ∈ vs → ∀ s, ρ[i]? = some s → ∀ v, pa s v = none) {b : Addr} : Pr ρ' σ' b ↔ Pr ρ σ b := by
  constructor
  · rintro ⟨i, s, v, h1, h2, h3⟩
    by_cases hi : i ∈ vs
    · have := f.np i hi s h1 v
      rw [h3] at this
      cases this
    · exact ⟨i, s, v, by rw [← (f.eq i hi).1]; exact h1, by rw [← (f.eq i hi).2]; exact h2, h3⟩
  · rintro ⟨i, s, v, h1, h2, h3⟩
    by_cases hi : i ∈ vs
    · have := hn i hi s h1 v
      rw [h3] at this
      cases this
    · exact ⟨i, s, v, by rw [(f.eq i hi).1]; exact h1, by rw [(f.eq i hi).2]; exact h2, h3⟩
theorem Off.vw {vs : List Nat} {ρ' : LS} {σ' : St} (f : Off vs ρ σ ρ' σ') (hn : ∀ i, i ∈ vs → ∀ s, ρ[i]? = some s → ∀ v, pa s v = none) : sv c ρ' σ' H = sv c ρ σ H := by
  have : (Pr ρ' σ') = (Pr ρ σ) := funext fun b => propext (f.pr hn)
  show hid (fun b => c.P b ∨ Pr ρ' σ' b) H = hid (fun b => c.P b ∨ Pr ρ σ b) H
  rw [this]
theorem Ok.wipe (k : Ok K c ρ σ H) : ∀ vs : List Nat, Ok K c (wipeS ρ vs) (L2.wipe σ vs) H
  | [] => k
  | v :: vs => (Ok.wipe k vs).setD rfl trivial
/-- back from a block -/
theorem Ok.back {vs : List Nat} {ρ' : LS} {σ' : St} (k : Ok K c ρ σ H) (hn : ∀ i, i ∈ vs → ∀ s, ρ[i]? = some s → ∀ v, pa s v = none) (f : Off vs ρ σ ρ' σ') (k2 : Ok K c ρ' σ' H2) (l : Le c ρ' σ' H H2) : Ok K c ρ σ H2 ∧ Le c ρ σ H H2 := by
  have l' : Le c ρ σ H H2 := fun b o h2 h3 => l b o (fun z => h2 ((f.fr hn).mp z)) h3
  refine ⟨k.grow l' (fun i s v h1 h2 hs => ?_) k2.fr k2.pt, l'⟩
  by_cases hi : i ∈ vs
  · have q := hn i hi s h1 v
    cases s with
    | src a => cases q
    | _ => exact absurd hs (by simp [fa])
  · have q := k2.sl i s v (by rw [(f.eq i hi).1]; exact h1) (by rw [(f.eq i hi).2]; exact h2)
    cases s with
    | src a => exact q
    | _ => exact absurd hs (by simp [fa])
end
/-- THE comprehension -/
theorem gn_lc {wi : TI} {g : TG} {tt : TT} {te : TE} {vs : List Nat} {RS : Slot → Prop} (hn : ∀ i, i ∈ vs → ∀ s, ρ[i]? = some s → ∀ v, pa s v = none) (h : GI K false ρ wi fun ds => ds.length < 1000000 ∧ ∃ W : Nat → List Dat → Prop, W 0 [] ∧
    (∀ i x acc, ds[i]? = some x → W i acc → acc.length ≤ i → GC K vs (wipeS ρ vs) g x fun ρ2 => GT K ρ2 tt fun b => (b = true → G K false ρ2 te fun y => W (i + 1) (acc ++ [y])) ∧ (b = false → W (i + 1) acc)) ∧ ∀ acc, acc.length ≤ ds.length → W ds.length acc → RS (.own acc)) :
    GN K ρ (tLc wi g tt te vs) RS := fun c σ H o Q q => by
  refine h c σ H o _ fun J H2 n Gj Y ds o2 l wk hlen hG hY ⟨hsz, W, h0, hs, hd⟩ D hD => ?_
  have hD0 : H D = none := by
    cases e : H D with
    | none => rfl
    | some ob =>
      have nv := o2.vis (w := false) hD
      rw [l D ob (fun z => nv (.inr (by rw [if_neg Bool.false_ne_true]; exact z.pr))) e] at hD
      cases hD
  have n0 : c.H0 D = none ∨ c.X D := by
    by_cases hx : c.X D
    · exact .inr hx
    · left
      cases e : c.H0 D with
      | none => rfl
      | some ob => rw [o2.fr D ob hx e] at hD; cases hD
  -- the context in which D is hidden, and does not stand in H0
  have key : ∃ c1 : Bc, c1.P = c.P ∧ c1.H0 D = none ∧ Ok K c1 ρ σ H2 ∧ ∀ H', Ok K c1 ρ σ H' → Ok K c ρ σ H' := by
    have hb : ∀ (ρ' : LS) (σ' : St) (H' : Hp), Ok0 K.F ⟨c.P, fun b => c.X b, fun b => @ite _ (b = D) (Classical.propDecidable _) none (c.H0 b)⟩ ρ' σ' H' → Ok0 K.F c ρ' σ' H' := fun ρ' σ' H' k => by
      refine ⟨k.len, k.sl, k.inj, k.np, fun b ob h1 h2 => ?_, fun b h => ?_, k.pt⟩
      · refine k.fr b ob h1 ?_
        show @ite _ (b = D) (Classical.propDecidable _) none (c.H0 b) = some ob
        have e : b ≠ D := fun z => by
          rcases n0 with n0 | n0
          · rw [z, n0] at h2; cases h2
          · exact h1 (by rw [z]; exact n0)
        rw [if_neg e]
        exact h2
      · rcases k.xs b h with z | z
        · exact .inl z
        · change @ite _ (b = D) (Classical.propDecidable _) none (c.H0 b) = none at z
          by_cases e : b = D
          · rw [e]; exact n0.symm
          · rw [if_neg e] at z; exact .inr z
    refine ⟨⟨c.P, fun b => c.X b, fun b => @ite _ (b = D) (Classical.propDecidable _) none (c.H0 b)⟩, rfl, if_pos rfl, ⟨⟨o2.len, o2.sl, o2.inj, o2.np, fun b ob h1 h2 => ?_, fun b h => ?_, o2.pt⟩, o2.xo.tr hb fun ρ σ H => Ex.refl _⟩, fun H' k => ⟨hb ρ σ H' k.toOk0, o2.xo⟩⟩
    · change @ite _ (b = D) (Classical.propDecidable _) none (c.H0 b) = some ob at h2
      by_cases e : b = D
      · rw [if_pos e] at h2; cases h2
      · rw [if_neg e] at h2; exact o2.fr b ob h1 h2
    · rcases o2.xs b h with z | z
      · exact .inl z
      · right
        show @ite _ (b = D) (Classical.propDecidable _) none (c.H0 b) = none
        by_cases e : b = D
        · rw [if_pos e]
        · rw [if_neg e]; exact z
  obtain ⟨c1, hP, hD1, o3, hback⟩ := key
  have o4 : Ok K (c1.plus D) ρ σ (upd H2 D (.lst [])) := o3.plus hD
  -- what is seen at the start is seen with D hidden
  have see : ∀ {H' : Hp}, (∀ b ob, b ≠ D → ¬ Fr ρ σ b → H2 b = some ob → H' b = some ob) → Ex (sv c ρ σ H2) (sv (c1.plus D) ρ σ H') := fun l' => hid_ex fun b ob hb e => by
    have nb : b ≠ D := fun z => by rw [z, hD] at e; cases e
    refine ⟨fun z => ?_, l' b ob nb (fun z => hb (.inr (by rw [if_neg Bool.false_ne_true]; exact z.pr))) e⟩
    rcases z with (z | z) | z
    · exact hb (.inl (by rw [← hP]; exact z))
    · exact nb z
    · exact hb (.inr z)
  refine lc_it wk (Qd := Q (.ref D)) (fun i H' => ∃ acc accD, Ok K (c1.plus D) ρ σ H' ∧ (∀ b ob, b ≠ D → ¬ Fr ρ σ b → H2 b = some ob → H' b = some ob) ∧ H' D = some (.lst acc) ∧ RepL K (sv (c1.plus D) ρ σ H') acc accD ∧ accD.length ≤ i ∧ W i accD) ⟨[], [], o4, fun b ob nb _ e => by rw [upd_ne nb]; exact e, upd_same, .nil, Nat.le_refl _, h0⟩ (fun i H' _ ⟨acc, accD, o', l', _⟩ => hG H' ((see l').trans vw_le)) (fun i x H3 H' hi ⟨acc, accD, o', l', hA, rA, hl, w'⟩ y => ?_) fun H' ⟨acc, accD, o', l', hA, rA, hl, w'⟩ => ?_
  · -- a turn
    obtain ⟨d, e1, o5, e5, r5⟩ := hY i H3 x H' (c1.plus D) (wipeS ρ vs) (L2.wipe σ vs) hi (o'.wipe vs) (by
      rw [(Off.wipe (σ := σ) hn).vw hn]
      exact see l') y
    have o6 : Ok K (c1.plus D) ρ σ H' := o'.ex e5
    have hA6 : H' D = some (.lst acc) := e5 D _ hA
    have rA6 := rA.mono (Le.vw (w := false) (c := c1.plus D) (ρ := ρ) (σ := σ) e5.le)
    refine hs i d accD e1 w' hl (c1.plus D) (L2.wipe σ vs) H' x o5 r5 _ fun ρ2 σ2 o7 e7 f7 k7 => ?_
    have f8 := f7 ρ σ (Off.wipe hn)
    refine ⟨wipe_ext (f8.l2.trans (wipe_length σ vs).symm |>.trans (wipe_length σ vs)) (fun i hi => (f8.eq i hi).2) |>.trans rfl, k7 (c1.plus D) σ2 H' o7 _ fun b H4 o8 l8 k8 => ?_⟩
    obtain ⟨b1, b2⟩ := o6.back hn f8 o8 l8
    have nF : ∀ {ρ' : LS} {σ' : St} {Hx : Hp}, Ok K (c1.plus D) ρ' σ' Hx → ¬ Fr ρ' σ' D := fun ok z => ok.np D z.pr (.inr rfl)
    have hA4 : H4 D = some (.lst acc) := l8 D _ (nF o7) hA6
    have rA4 := rA6.mono (b2.vw (w := false))
    have lA : ∀ b ob, b ≠ D → ¬ Fr ρ σ b → H2 b = some ob → H4 b = some ob := fun b ob nb nf e => b2 b ob nf (e5 b ob (l' b ob nb nf e))
    cases b with
    | true =>
      rw [if_pos rfl]
      refine k8.1 rfl (c1.plus D) σ2 H4 o8 _ fun v H5 y o9 l9 r9 k9 => ?_
      obtain ⟨d1, d2⟩ := b1.back hn f8 o9 l9
      have hA5 : H5 D = some (.lst acc) := l9 D _ (nF o8) hA4
      have rA5 := rA4.mono (d2.vw (w := false))
      have r9' : Rep K (sv (c1.plus D) ρ σ H5) v y := by
        have e : vw (c1.plus D) false ρ2 σ2 H5 = vw (c1.plus D) false ρ σ H5 := f8.vw hn
        rw [e] at r9
        exact r9
      have up : Ex (sv (c1.plus D) ρ σ H5) (sv (c1.plus D) ρ σ (upd H5 D (.lst (acc ++ [v])))) := hid_ex fun b ob hb e => ⟨hb, by rw [upd_ne fun z => hb (.inl (.inr z))]; exact e⟩
      refine ⟨acc, hA5, by rw [rA5.length]; exact Nat.lt_of_le_of_lt hl (by have := bigL hsz; omega), acc ++ [v], accD ++ [y], d1.plusW hD1, ?_, upd_same, (rA5.append (.one r9')).mono up, ?_, k9⟩
      · intro b ob nb nf e
        rw [upd_ne nb]
        exact d2 b ob nf (lA b ob nb nf e)
      · rw [List.length_append, List.length_singleton]
        omega
    | false =>
      rw [if_neg Bool.false_ne_true]
      exact ⟨acc, accD, b1, lA, hA4, rA4, Nat.le_succ_of_le hl, k8.2 rfl⟩
  · rw [← hlen] at w' hl
    have ob := hback H' ⟨o'.toOk0.minus, o3.xo⟩
    refine q D H' (.own accD) ob ?_ hD0 ⟨D, acc, rfl, hA, rA.mono (hid_ex fun b ob hb e => ⟨fun z => ?_, hid_some.mpr ⟨fun z => ?_, e⟩⟩)⟩ rfl (hd accD hl w')
    · intro b ob h2 h3
      have nb : b ≠ D := fun z => by rw [z, hD0] at h3; cases h3
      exact l' b ob nb h2 (l b ob h2 h3)
    · exact hb (.inl (.inr z))
    · refine hb ?_
      rcases z with z | z
      · exact .inl (.inl (by rw [hP]; exact z))
      · exact .inr z
end
end BV

end

section
set_option maxHeartbeats 4000000
namespace BV
open PySem PySem.Spec L2
open PyProof.Rows (envOfC)

section
variable {K : KB} {w : Bool} {ρ : LS} {ta tb te tl : TE} {t : TA} {R : Dat → Prop}
/-! ### new objects -/
theorem gn_lst (h : GA K false ρ t fun xs => xs.length ≤ 100000 ∧ RS (.own xs)) : GN K ρ (tLst t) RS := fun c σ H o Q q =>
  h c σ H o _ fun us H1 xs o1 l1 r1 h1 => ⟨by rw [r1.length]; exact Nat.le_trans h1.1 (by decide), fun p hp => by
    have hp0 : H p = none := by
      cases e : H p with
      | none => rfl
      | some ob =>
        have nv := o1.vis (w := false) hp
        rw [l1 p ob (fun z => nv (.inr (by rw [if_neg Bool.false_ne_true]; exact z.pr))) e] at hp
        cases hp
    refine q p _ (.own xs) (o1.ex (Ex.new hp)) (l1.trans (Ex.new hp).le) hp0 ⟨p, us, rfl, upd_same, r1.mono fun b ob hb => ?_⟩ rfl h1.2
    have nb : b ≠ p := fun z => by rw [z] at hb; rw [vw_le p _ hb] at hp; cases hp
    exact hid_some.mpr ⟨nb, (Le.vw (w := false) (c := c) (ρ := ρ) (σ := σ) (Ex.new hp).le) b ob hb⟩⟩
theorem gn_dk {RS : Slot → Prop} (h : RS (.od [])) : GN K ρ tDNewK RS := fun c σ H o Q q p hp =>
  q p _ (.od []) (o.ex (Ex.new hp)) (Ex.new hp).le hp ⟨p, [], rfl, upd_same, .nil⟩ rfl h
theorem gn_dt {RS : Slot → Prop} (h : RS (.ot [])) : GN K ρ tDNewT RS := fun c σ H o Q q p hp =>
  q p _ (.ot []) (o.ex (Ex.new hp)) (Ex.new hp).le hp ⟨p, [], rfl, upd_same, .nil⟩ rfl h
/-- a new list as data -/
theorem g_new (h : GN K ρ te fun s => ∃ ds, s = .own ds ∧ R (.lst ds)) : G K w ρ te R := fun c σ H o Q q =>
  h c σ H o _ fun a H2 s o2 l n r hp ⟨ds, e, k⟩ => by
    subst e
    obtain ⟨a', xs, e1, e2, r2⟩ := r
    cases e1
    refine q _ H2 _ o2 l (.lst (hid_some.mpr ⟨?_, e2⟩) (r2.mono fun b ob hb => vw_up2 b ob (hid_some.mp hb).2)) k
    rintro (z | z)
    · obtain ⟨ob, e⟩ := o.pt a z
      rw [n] at e
      cases e
    · have z' : Pr ρ σ a := by
        cases w with
        | true => rw [if_pos rfl] at z; exact z.pr
        | false => rw [if_neg Bool.false_ne_true] at z; exact z
      obtain ⟨ob, e, _⟩ := o.tr z'
      rw [n] at e
      cases e

/-! ### promises by data -/
def spF (K : PySem.W.Frag) (S : List Dat → (Dat → Prop) → Prop) : Sp := fun vs H Q _ => ∃ (P : Addr → Prop) (ds : List Dat) (R : Dat → Prop), (∀ a, P a → ∃ o, H a = some o) ∧ RepL K (hid P H) vs ds ∧ S ds R ∧
  ∀ v H' d, Ex H H' → Rep K (hid P H') v d → R d → Q v H'
def spS (K : PySem.W.Frag) (S : List Dat → (Dat → Prop) → Prop) : Sp := fun vs H Q _ => ∃ (P : Addr → Prop) (s : Addr) (us : List V) (ds : List Dat) (R : Dat → Prop), vs = .ref s :: us ∧ SrcAt H s ∧ ¬ P s ∧ (∀ a, P a → ∃ o, H a = some o) ∧
  RepL K (hid (fun b => P b ∨ b = s) H) us ds ∧ S ds R ∧ ∀ v H' d, (∀ b o, b ≠ s → H b = some o → H' b = some o) → SrcAt H' s → Rep K (hid (fun b => P b ∨ b = s) H') v d → R d → Q v H'
/-- a new source comes back -/
def spN (K : PySem.W.Frag) (S : List Dat → Prop) : Sp := fun vs H Q _ => ∃ (P : Addr → Prop) (ds : List Dat), (∀ a, P a → ∃ o, H a = some o) ∧ RepL K (hid P H) vs ds ∧ S ds ∧
  ∀ a H', Ex H H' → H a = none → SrcAt H' a → Q (.ref a) H'
/-- an __init__ of the class at C -/
def spI (K : PySem.W.Frag) (C : Addr) (S : List Dat → (List (Str × Dat) → Prop) → Prop) : Sp := fun vs H Q _ => ∃ (P : Addr → Prop) (x dx : Addr) (us : List V) (ds : List Dat) (R : List (Str × Dat) → Prop), vs = .ref x :: us ∧ H x = some (.ins C dx []) ∧ ¬ P x ∧ (∀ a, P a → ∃ o, H a = some o) ∧
  RepL K (hid (fun b => P b ∨ b = x) H) us ds ∧ S ds R ∧ ∀ H' dx' xs fs, (∀ b o, b ≠ x → H b = some o → H' b = some o) → H' x = some (.ins C dx' xs) → RepF K (hid (fun b => P b ∨ b = x) H') xs fs → R fs → Q .non H'

theorem Ok.trk {c : Bc} {σ : St} {H : Hp} (o : Ok K c ρ σ H) : ∀ a, (c.P a ∨ if w = true then Fr ρ σ a else Pr ρ σ a) → ∃ ob, H a = some ob := fun a h => by
  cases e : H a with
  | some ob => exact ⟨ob, rfl⟩
  | none => exact absurd h (o.vis e)
theorem g_call {S : List Dat → (Dat → Prop) → Prop} {E : XK} (h : GA K w ρ t fun ds => S ds R) : G K w ρ (tCall (spF K S) [] E t) R := fun c σ H o Q q =>
  h c σ H o _ fun vs H1 ds o1 l1 r1 k => by
    show spF K S (vs ++ []) H1 Q E
    rw [List.append_nil]
    exact ⟨_, ds, R, o1.trk, r1, k, fun v H' d e rv rd => q v H' d (o1.ex e) (l1.trans e.le) rv rd⟩
theorem g_callS {S : List Dat → (Dat → Prop) → Prop} {E : XK} {i : Nat} {s : Addr} (he : ρ[i]? = some (.src s)) (h : GA K w ρ t fun ds => S ds R) : G K w ρ (tCall (spS K S) [] E (tCons (tVar i) t)) R := fun c σ H o Q q => by
  obtain ⟨v, e, rfl, hs⟩ := o.get he
  refine ⟨_, e, h c σ H o _ fun vs H1 ds o1 l1 r1 k => ?_⟩
  show spS K S ((.ref s :: vs) ++ []) H1 Q E
  rw [List.append_nil]
  have hF : Fr ρ σ s := ⟨i, _, _, he, e, rfl⟩
  have hX : c.P s ∨ (if w = true then Fr ρ σ s else Pr ρ σ s) := .inr (by
    cases w with
    | true => rw [if_pos rfl]; exact hF
    | false => rw [if_neg Bool.false_ne_true]; exact hF.pr)
  have hs1 : SrcAt H1 s := by
    obtain ⟨v, e', _, q1⟩ := o1.get he
    exact q1
  refine ⟨fun b => (c.P b ∨ (if w = true then Fr ρ σ b else Pr ρ σ b)) ∧ b ≠ s, s, vs, ds, R, rfl, hs1, fun z => z.2 rfl, fun a ha => o1.trk (w := w) a ha.1, r1.mono (hid_ex fun b ob hb e => ⟨fun z => ?_, e⟩), k, fun v H' d hk hs' rv rd => ?_⟩
  · rcases z with z | z
    · exact hb z.1
    · exact hb (by rw [z]; exact hX)
  · have l2 : Le c ρ σ H1 H' := fun b ob nf e => hk b ob (fun z => nf (by rw [z]; exact hF)) e
    refine q v H' d (o1.grow l2 (fun i' s' v' h1 h2 hf => ?_) (fun b ob h1 h2 => ?_) fun a ha => ?_) (l1.trans l2) (rv.mono (hid_ex fun b ob hb e => ⟨fun z => hb ?_, e⟩)) rd
    · cases s' with
      | src a =>
        obtain ⟨rfl, n, sd, cc, e1⟩ := o1.sl i' _ v' h1 h2
        refine ⟨rfl, ?_⟩
        by_cases ea : a = s
        · rw [ea]; exact hs'
        · exact ⟨n, sd, cc, hk a _ ea e1⟩
      | _ => exact absurd hf (by simp [fa])
    · refine hk b ob (fun z => ?_) (o1.fr b ob h1 h2)
      rcases o1.xs s hF.pr with y | y
      · exact h1 (by rw [z]; exact y)
      · rw [z, y] at h2; cases h2
    · by_cases z : a = s
      · exact absurd ha (by rw [z]; exact o1.np s hF.pr)
      · obtain ⟨ob, e⟩ := o1.pt a ha
        exact ⟨ob, hk a ob z e⟩
    · by_cases ea : b = s
      · exact .inr ea
      · exact .inl ⟨z, ea⟩
/-- a new instance -/
theorem g_make {C : Addr} {S : List Dat → (List (Str × Dat) → Prop) → Prop} {E : XK} (h : GA K w ρ t fun ds => S ds fun fs => R (.obj C fs)) : G K w ρ (tMake C (spI K C S) [] E t) R := fun c σ H o Q q =>
  h c σ H o _ fun vs H1 ds o1 l1 r1 k => fun x dx hx hdx ne => by
    show spI K C S (.ref x :: (vs ++ [])) _ _ E
    rw [List.append_nil]
    have e1 : Ex H1 (upd (upd H1 dx (.own x)) x (.ins C dx [])) := (Ex.new hdx).trans (Ex.new (by rw [upd_ne ne.symm]; exact hx))
    have o2 := o1.ex e1
    refine ⟨fun b => c.P b ∨ (if w = true then Fr ρ σ b else Pr ρ σ b), x, dx, vs, ds, _, rfl, upd_same, o1.vis (w := w) hx, o2.trk, r1.mono (hid_ex fun b ob hb e => ⟨fun z => ?_, e1 b ob e⟩), k, fun H' dx' xs fs hk hx' rf rr => ⟨rfl, ?_⟩⟩
    · rcases z with z | z
      · exact hb z
      · rw [z, hx] at e; cases e
    · have e3 : Ex H1 H' := fun b ob e => hk b ob (fun z => by rw [z, hx] at e; cases e) (e1 b ob e)
      exact q _ H' _ (o1.ex e3) (l1.trans e3.le) (.obj (hid_some.mpr ⟨o1.vis (w := w) hx, hx'⟩) (rf.mono (hid_ex fun b ob hb e => ⟨fun z => hb (.inl z), e⟩))) rr
end
section
variable {K : KB} {w : Bool} {ρ : LS} {ta tb te tl : TE} {t : TA}
theorem run_src {S : List Dat → Prop} {E : XK} {i : Nat} {N : LS → Prop} {R : Ret → LS → Prop} {B C : LS → Prop} (h : GA K false ρ t fun ds => S ds ∧ ∀ a, N (ρ.set i (.src a))) : Run K ρ (tAsg (tCall (spN K S) [] E t) (gName i)) N R B C := fun c D is σ H o =>
  h c σ H o _ fun vs H1 ds o1 l1 r1 k => by
    show spN K S (vs ++ []) H1 _ E
    rw [List.append_nil]
    refine ⟨_, ds, o1.trk, r1, k.1, fun a H' e n hs => ?_⟩
    have o2 := o1.ex e
    exact is.nx _ _ _ (o1.setN o2 e.le n (s := .src a) ⟨rfl, hs⟩ rfl) (k.2 a)

/-! ### a def keeps its promise -/
def startS (N : List Str) (ds : List Dat) : LS := ds.map Slot.d ++ List.replicate (N.length - ds.length) Slot.no
theorem start_get {K : PySem.W.Frag} {N : List Str} {vs : List V} {ds : List Dat} {i : Nat} {s : Slot} {v : Option V} {B : Hp} (r : RepL K B vs ds) (h1 : (startS N ds)[i]? = some s) (h2 : (L2.start N vs)[i]? = some v) : s = .no ∨ ∃ x u, s = .d x ∧ v = some u ∧ Rep K B u x := by
  unfold startS at h1
  unfold L2.start at h2
  by_cases hi : i < ds.length
  · right
    rw [List.getElem?_append_left (by simpa using hi), List.getElem?_map] at h1
    rw [List.getElem?_append_left (by rw [List.length_map, r.length]; exact hi), List.getElem?_map] at h2
    cases e1 : ds[i]? with
    | none => rw [e1] at h1; cases h1
    | some x =>
      rw [e1] at h1
      cases h1
      obtain ⟨u, e2, ru⟩ := r.get e1
      rw [e2] at h2
      cases h2
      exact ⟨x, u, rfl, rfl, ru⟩
  · left
    rw [List.getElem?_append_right (by simpa using hi), List.getElem?_replicate] at h1
    split at h1
    · cases h1; rfl
    · cases h1
theorem start_len {N : List Str} {vs : List V} {ds : List Dat} (h : vs.length = ds.length) : (startS N ds).length = (L2.start N vs).length := by
  unfold startS L2.start
  rw [List.length_append, List.length_append, List.length_map, List.length_map, List.length_replicate, List.length_replicate, h]
section
variable {K : PySem.W.Frag} {P : Program} {wd : World} {mg : Str → Option Value} {base : Heap} {x qual : Str} {st : Stmt} {f : Addr} {fd : FuncData} {N ps : List Str} {k : Nat}
theorem okF {S : List Dat → (Dat → Prop) → Prop} (F : Fun K x qual st f fd) (sc : FnScope N ps (defScope st)) (len : ∀ ds R, S ds R → ds.length = ps.length)
    (hb : ∀ (cdv : Value) (A : Around) (outer : List Env) (s : Shared) (H : Hp) (E : XK), Room k (A.deeper (envOfC qual (defScope st) s.heap.objs.size f cdv)) →
      ∃ t, PSs (cxOf CX0 P wd K mg base N qual (defScope st) f cdv A outer s H E).nox (defBody st) t ∧ ∀ ds R, S ds R → Run (KB.of K) (startS N ds) t (fun _ => R .non) (fun r _ => ∃ d, r = .d d ∧ R d) (fun _ => False) fun _ => False) :
    FnOk P wd K mg base CX0 (k + 1) f fd ps (spF K S) := by
  refine F.ok sc (fun vs H Q E h => ?_) fun cdv A outer s H vs Q E hr h => ?_
  · obtain ⟨P, ds, R, _, r, hS, _⟩ := h
    rw [r.length]
    exact len ds R hS
  · obtain ⟨Pp, ds, R, hp, r, hS, kq⟩ := h
    obtain ⟨t, ht, run⟩ := hb cdv A outer s H E hr
    refine ⟨t, ht, ?_⟩
    have nop : ∀ a, ¬ Pr (startS N ds) (L2.start N vs) a := fun a ⟨i, s', v', h1, h2, h3⟩ => by
      rcases start_get r h1 h2 with e | ⟨y, u, e, _⟩
      · rw [e] at h3; cases h3
      · rw [e] at h3; cases h3
    have o : Ok (KB.of K) ⟨Pp, fun _ => False, H⟩ (startS N ds) (L2.start N vs) H := by
      refine ⟨⟨start_len r.length, fun i s' v' h1 h2 => ?_, fun i j s1 v1 s2 v2 a g1 g2 g3 => absurd ⟨i, s1, v1, g1, g2, g3⟩ (nop a), fun a h => absurd h (nop a), fun _ _ _ h => h, fun a h => absurd h (nop a), hp⟩, .of⟩
      rcases start_get r h1 h2 with e | ⟨y, u, e, e2, ru⟩
      · rw [e]; trivial
      · rw [e, e2]
        refine ⟨u, rfl, ru.mono (hid_ex fun b ob hb e => ⟨fun z => ?_, e⟩)⟩
        rcases z with z | z
        · exact hb z
        · rw [if_neg Bool.false_ne_true] at z; exact nop b z
    refine run ds R hS _ _ ⟨fun ρ' σ' H' o' n => ?_, fun ρ' σ' H' v d o' rv rd => ?_, fun ρ' σ' H' a s' o' hx rs hpa rd => ?_, fun _ _ _ _ z => z.elim, fun _ _ _ _ z => z.elim⟩ _ _ o
    · exact kq .non H' .non (fun b ob e => o'.fr b ob (fun z => z) e) .non n
    · obtain ⟨d', e, rd⟩ := rd
      cases e
      exact kq v H' d (fun b ob e => o'.fr b ob (fun z => z) e) (rv.mono (hid_ex fun b ob hb e => ⟨fun z => hb (.inl z), e⟩)) rd
    · obtain ⟨d', e, rd⟩ := rd
      cases e
theorem okS {S : List Dat → (Dat → Prop) → Prop} (F : Fun K x qual st f fd) (sc : FnScope N ps (defScope st)) (len : ∀ ds R, S ds R → ds.length + 1 = ps.length)
    (hb : ∀ (cdv : Value) (A : Around) (outer : List Env) (s : Shared) (H : Hp) (E : XK), Room k (A.deeper (envOfC qual (defScope st) s.heap.objs.size f cdv)) →
      ∃ t, PSs (cxOf CX0 P wd K mg base N qual (defScope st) f cdv A outer s H E).nox (defBody st) t ∧ ∀ (s : Addr) ds R, S ds R → Run (KB.of K) (.src s :: startS N.tail ds) t (fun ρ => ρ[0]? = some (.src s) ∧ R .non) (fun r ρ => ρ[0]? = some (.src s) ∧ ∃ d, r = .d d ∧ R d) (fun _ => False) fun _ => False) :
    FnOk P wd K mg base CX0 (k + 1) f fd ps (spS K S) := by
  refine F.ok sc (fun vs H Q E h => ?_) fun cdv A outer s H vs Q E hr h => ?_
  · obtain ⟨P, s, us, ds, R, rfl, _, _, _, r, hS, _⟩ := h
    rw [List.length_cons, r.length]
    exact len ds R hS
  · obtain ⟨Pp, s0, us, ds, R, rfl, hs0, np0, hp, r, hS, kq⟩ := h
    obtain ⟨t, ht, run⟩ := hb cdv A outer s H E hr
    refine ⟨t, ht, ?_⟩
    have hl := len ds R hS
    have hN : N ≠ [] := fun z => by
      have e := sc.pre
      rw [z] at e
      have : ps.length = 0 := by rw [← e]; simp
      omega
    obtain ⟨n0, Nt, rfl⟩ := List.exists_cons_of_ne_nil hN
    have es : L2.start (n0 :: Nt) (V.ref s0 :: us) = some (.ref s0) :: L2.start Nt us := by
      unfold L2.start
      simp
    rw [es]
    have get : ∀ {i : Nat} {s' : Slot} {v' : Option V}, (Slot.src s0 :: startS Nt ds)[i]? = some s' → (some (V.ref s0) :: L2.start Nt us)[i]? = some v' → (i = 0 ∧ s' = .src s0 ∧ v' = some (.ref s0)) ∨ s' = .no ∨ ∃ x u, s' = .d x ∧ v' = some u ∧ Rep K (hid (fun b => Pp b ∨ b = s0) H) u x := fun {i s' v'} h1 h2 => by
      cases i with
      | zero => simp at h1 h2; exact .inl ⟨rfl, h1.symm, h2.symm⟩
      | succ i => exact .inr (start_get r (by simpa using h1) (by simpa using h2))
    have prs : ∀ a, Pr (Slot.src s0 :: startS Nt ds) (some (.ref s0) :: L2.start Nt us) a → a = s0 := fun a ⟨i, s', v', h1, h2, h3⟩ => by
      rcases get h1 h2 with ⟨_, e, e2⟩ | e | ⟨y, u, e, _⟩
      · rw [e] at h3; cases h3; rfl
      · rw [e] at h3; cases h3
      · rw [e] at h3; cases h3
    have o : Ok (KB.of K) ⟨Pp, fun b => b = s0, H⟩ (Slot.src s0 :: startS Nt ds) (some (.ref s0) :: L2.start Nt us) H := by
      refine ⟨⟨by rw [List.length_cons, List.length_cons, start_len r.length], fun i s' v' h1 h2 => ?_, fun i j s1 v1 s2 v2 a g1 g2 g3 g4 g5 g6 => ?_, fun a h => by rw [prs a h]; exact np0, fun _ _ _ h => h, fun a h => .inl (prs a h), hp⟩, .of⟩
      · rcases get h1 h2 with ⟨_, e, e2⟩ | e | ⟨y, u, e, e2, ru⟩
        · rw [e, e2]; exact ⟨rfl, hs0⟩
        · rw [e]; trivial
        · rw [e, e2]
          refine ⟨u, rfl, ru.mono (hid_ex fun b ob hb e => ⟨fun z => ?_, e⟩)⟩
          rcases z with z | z
          · exact hb (.inl z)
          · rw [if_neg Bool.false_ne_true] at z; exact hb (.inr (prs b z))
      · have z1 : i = 0 := by
          rcases get g1 g2 with ⟨e, _⟩ | e | ⟨y, u, e, _⟩
          · exact e
          · rw [e] at g3; cases g3
          · rw [e] at g3; cases g3
        have z2 : j = 0 := by
          rcases get g4 g5 with ⟨e, _⟩ | e | ⟨y, u, e, _⟩
          · exact e
          · rw [e] at g6; cases g6
          · rw [e] at g6; cases g6
        rw [z1, z2]
    have fin : ∀ {ρ' : LS} {σ' : St} {H' : Hp} {v : V} {d : Dat}, Ok (KB.of K) ⟨Pp, fun b => b = s0, H⟩ ρ' σ' H' → ρ'[0]? = some (.src s0) → Rep K (sv ⟨Pp, fun b => b = s0, H⟩ ρ' σ' H') v d → R d → Q v H' := fun {ρ' σ' H' v d} o' h0 rv rd => by
      obtain ⟨v0, e0, rfl, hs⟩ := o'.get h0
      have hF : Pr ρ' σ' s0 := ⟨0, _, _, h0, e0, rfl⟩
      refine kq v H' d (fun b ob nb e => o'.fr b ob nb e) hs (rv.mono (hid_ex fun b ob hb e => ⟨fun z => ?_, e⟩)) rd
      rcases z with z | z
      · exact hb (.inl z)
      · exact hb (.inr (by rw [if_neg Bool.false_ne_true, z]; exact hF))
    refine run s0 ds R hS _ _ ⟨fun ρ' σ' H' o' n => fin o' n.1 .non n.2, fun ρ' σ' H' v d o' rv rd => ?_, fun ρ' σ' H' a s' o' hx rs hpa rd => ?_, fun _ _ _ _ z => z.elim, fun _ _ _ _ z => z.elim⟩ _ _ o
    · obtain ⟨h0, d', e, rd⟩ := rd
      cases e
      exact fin o' h0 rv rd
    · obtain ⟨h0, d', e, rd⟩ := rd
      cases e
theorem okN {S : List Dat → Prop} (F : Fun K x qual st f fd) (sc : FnScope N ps (defScope st)) (len : ∀ ds, S ds → ds.length = ps.length)
    (hb : ∀ (cdv : Value) (A : Around) (outer : List Env) (s : Shared) (H : Hp) (E : XK), Room k (A.deeper (envOfC qual (defScope st) s.heap.objs.size f cdv)) →
      ∃ t, PSs (cxOf CX0 P wd K mg base N qual (defScope st) f cdv A outer s H E).nox (defBody st) t ∧ ∀ ds, S ds → Run (KB.of K) (startS N ds) t (fun _ => False) (fun r _ => ∃ n s c : Int, r = .n (.own [.int n, .int s, .int c])) (fun _ => False) fun _ => False) :
    FnOk P wd K mg base CX0 (k + 1) f fd ps (spN K S) := by
  refine F.ok sc (fun vs H Q E h => ?_) fun cdv A outer s H vs Q E hr h => ?_
  · obtain ⟨P, ds, _, r, hS, _⟩ := h
    rw [r.length]
    exact len ds hS
  · obtain ⟨Pp, ds, hp, r, hS, kq⟩ := h
    obtain ⟨t, ht, run⟩ := hb cdv A outer s H E hr
    refine ⟨t, ht, ?_⟩
    have nop : ∀ a, ¬ Pr (startS N ds) (L2.start N vs) a := fun a ⟨i, s', v', h1, h2, h3⟩ => by
      rcases start_get r h1 h2 with e | ⟨y, u, e, _⟩
      · rw [e] at h3; cases h3
      · rw [e] at h3; cases h3
    have o : Ok (KB.of K) ⟨Pp, fun _ => False, H⟩ (startS N ds) (L2.start N vs) H := by
      refine ⟨⟨start_len r.length, fun i s' v' h1 h2 => ?_, fun i j s1 v1 s2 v2 a g1 g2 g3 => absurd ⟨i, s1, v1, g1, g2, g3⟩ (nop a), fun a h => absurd h (nop a), fun _ _ _ h => h, fun a h => absurd h (nop a), hp⟩, .of⟩
      rcases start_get r h1 h2 with e | ⟨y, u, e, e2, ru⟩
      · rw [e]; trivial
      · rw [e, e2]
        refine ⟨u, rfl, ru.mono (hid_ex fun b ob hb e => ⟨fun z => ?_, e⟩)⟩
        rcases z with z | z
        · exact hb z
        · rw [if_neg Bool.false_ne_true] at z; exact nop b z
    refine run ds hS _ _ ⟨fun _ _ _ _ z => z.elim, fun ρ' σ' H' v d o' rv rd => ?_, fun ρ' σ' H' a s' o' hx rs hpa rd => ?_, fun _ _ _ _ z => z.elim, fun _ _ _ _ z => z.elim⟩ _ _ o
    · obtain ⟨_, _, _, e⟩ := rd
      cases e
    · obtain ⟨n, sd, cc, e⟩ := rd
      cases e
      obtain ⟨a', xs, e1, e2, r2⟩ := rs
      cases e1
      refine kq a H' (fun b ob e => o'.fr b ob (fun z => z) e) (hx.resolve_left fun z => z) ⟨n, sd, cc, ?_⟩
      cases r2 with
      | cons r2 r3 =>
      cases r3 with
      | cons r3 r4 =>
      cases r4 with
      | cons r4 r5 =>
      cases r2
      cases r3
      cases r4
      cases r5
      exact e2
/-- an __init__ -/
theorem okI {C : Addr} {S : List Dat → (List (Str × Dat) → Prop) → Prop} (F : Fun K x qual st f fd) (sc : FnScope N ps (defScope st)) (len : ∀ ds R, S ds R → ds.length + 1 = ps.length)
    (hb : ∀ (cdv : Value) (A : Around) (outer : List Env) (s : Shared) (H : Hp) (E : XK), Room k (A.deeper (envOfC qual (defScope st) s.heap.objs.size f cdv)) →
      ∃ t, PSs (cxOf CX0 P wd K mg base N qual (defScope st) f cdv A outer s H E).nox (defBody st) t ∧ ∀ (s : Addr) ds R, S ds R → Run (KB.of K) (.ins s C [] :: startS N.tail ds) t (fun ρ => ∃ fs, ρ[0]? = some (.ins s C fs) ∧ R fs) (fun r ρ => False) (fun _ => False) fun _ => False) :
    FnOk P wd K mg base CX0 (k + 1) f fd ps (spI K C S) := by
  refine F.ok sc (fun vs H Q E h => ?_) fun cdv A outer s H vs Q E hr h => ?_
  · obtain ⟨P, s, dx, us, ds, R, rfl, _, _, _, r, hS, _⟩ := h
    rw [List.length_cons, r.length]
    exact len ds R hS
  · obtain ⟨Pp, s0, dx, us, ds, R, rfl, hs0, np0, hp, r, hS, kq⟩ := h
    obtain ⟨t, ht, run⟩ := hb cdv A outer s H E hr
    refine ⟨t, ht, ?_⟩
    have hl := len ds R hS
    have hN : N ≠ [] := fun z => by
      have e := sc.pre
      rw [z] at e
      have : ps.length = 0 := by rw [← e]; simp
      omega
    obtain ⟨n0, Nt, rfl⟩ := List.exists_cons_of_ne_nil hN
    have es : L2.start (n0 :: Nt) (V.ref s0 :: us) = some (.ref s0) :: L2.start Nt us := by
      unfold L2.start
      simp
    rw [es]
    have get : ∀ {i : Nat} {s' : Slot} {v' : Option V}, (Slot.ins s0 C [] :: startS Nt ds)[i]? = some s' → (some (V.ref s0) :: L2.start Nt us)[i]? = some v' → (i = 0 ∧ s' = .ins s0 C [] ∧ v' = some (.ref s0)) ∨ s' = .no ∨ ∃ x u, s' = .d x ∧ v' = some u ∧ Rep K (hid (fun b => Pp b ∨ b = s0) H) u x := fun {i s' v'} h1 h2 => by
      cases i with
      | zero => simp at h1 h2; exact .inl ⟨rfl, h1.symm, h2.symm⟩
      | succ i => exact .inr (start_get r (by simpa using h1) (by simpa using h2))
    have prs : ∀ a, Pr (Slot.ins s0 C [] :: startS Nt ds) (some (.ref s0) :: L2.start Nt us) a → a = s0 := fun a ⟨i, s', v', h1, h2, h3⟩ => by
      rcases get h1 h2 with ⟨_, e, e2⟩ | e | ⟨y, u, e, _⟩
      · rw [e] at h3; cases h3; rfl
      · rw [e] at h3; cases h3
      · rw [e] at h3; cases h3
    have o : Ok (KB.of K) ⟨Pp, fun b => b = s0, H⟩ (Slot.ins s0 C [] :: startS Nt ds) (some (.ref s0) :: L2.start Nt us) H := by
      refine ⟨⟨by rw [List.length_cons, List.length_cons, start_len r.length], fun i s' v' h1 h2 => ?_, fun i j s1 v1 s2 v2 a g1 g2 g3 g4 g5 g6 => ?_, fun a h => by rw [prs a h]; exact np0, fun _ _ _ h => h, fun a h => .inl (prs a h), hp⟩, .of⟩
      · rcases get h1 h2 with ⟨_, e, e2⟩ | e | ⟨y, u, e, e2, ru⟩
        · rw [e, e2]; exact ⟨dx, [], rfl, hs0, .nil⟩
        · rw [e]; trivial
        · rw [e, e2]
          refine ⟨u, rfl, ru.mono (hid_ex fun b ob hb e => ⟨fun z => ?_, e⟩)⟩
          rcases z with z | z
          · exact hb (.inl z)
          · rw [if_neg Bool.false_ne_true] at z; exact hb (.inr (prs b z))
      · have z1 : i = 0 := by
          rcases get g1 g2 with ⟨e, _⟩ | e | ⟨y, u, e, _⟩
          · exact e
          · rw [e] at g3; cases g3
          · rw [e] at g3; cases g3
        have z2 : j = 0 := by
          rcases get g4 g5 with ⟨e, _⟩ | e | ⟨y, u, e, _⟩
          · exact e
          · rw [e] at g6; cases g6
          · rw [e] at g6; cases g6
        rw [z1, z2]
    refine run s0 ds R hS _ _ ⟨fun ρ' σ' H' o' ⟨fs, h0, rr⟩ => ?_, fun ρ' σ' H' v d o' rv rd => rd.elim, fun ρ' σ' H' a s' o' hx rs hpa rd => rd.elim, fun _ _ _ _ z => z.elim, fun _ _ _ _ z => z.elim⟩ _ _ o
    obtain ⟨v0, e0, dx', xs, rfl, hx, rf⟩ := o'.get h0
    have hF : Pr ρ' σ' s0 := ⟨0, _, _, h0, e0, rfl⟩
    refine kq H' dx' xs fs (fun b ob nb e => o'.fr b ob nb e) hx (rf.mono (hid_ex fun b ob hb e => ⟨fun z => ?_, e⟩)) rr
    rcases z with z | z
    · exact hb (.inl z)
    · exact hb (.inr (by rw [if_neg Bool.false_ne_true, z]; exact hF))
end
end
end BV

end

section
set_option maxHeartbeats 4000000
namespace BV
open PySem L2

def rLen (K : PySem.W.Frag) : List V → Hp → VK → Prop := fun xs H Q => ∃ x n, xs = [x] ∧ LenV K x H n ∧ Q (.int n) H
def rInt : List V → Hp → VK → Prop := fun xs H Q => (∃ i, xs = [.int i] ∧ Q (.int i) H) ∨ ∃ k, xs = [.bl k] ∧ Q (.int (if k then 1 else 0)) H
def rBool : List V → Hp → VK → Prop := fun xs H Q => (∃ i, xs = [.int i] ∧ Q (.bl (i != 0)) H) ∨ ∃ k, xs = [.bl k] ∧ Q (.bl k) H
def rAbs : List V → Hp → VK → Prop := fun xs H Q => ∃ i, xs = [.int i] ∧ Q (.int (if i < 0 then -i else i)) H
def rMax2 : List V → Hp → VK → Prop := fun xs H Q => ∃ i j, xs = [.int i, .int j] ∧ Q (.int (if j > i then j else i)) H
def rMin2 : List V → Hp → VK → Prop := fun xs H Q => ∃ i j, xs = [.int i, .int j] ∧ Q (.int (if j < i then j else i)) H
def rTupOf (K : PySem.W.Frag) : List V → Hp → VK → Prop := fun xs H Q => ∃ p ys, xs = [.ref p] ∧ ((SqL K H p ys ∧ ∀ l, H l = none → Q (.ref l) (upd H l (.tup ys))) ∨ (SqT K H p ys ∧ Q (.ref p) H))
def rEnds : V → List V → Hp → VK → Prop := fun x xs H Q => ∃ a b, x = .str a ∧ xs = [.str b] ∧ Q (.bl (Txt.endswith a b)) H
def rStarts : V → List V → Hp → VK → Prop := fun x xs H Q => ∃ a b, x = .str a ∧ xs = [.str b] ∧ Q (.bl (Txt.startswith a b)) H
def rJoin (K : PySem.W.Frag) : V → List V → Hp → VK → Prop := fun x xs H Q => ∃ a p, ∃ ys : List Str, x = .str a ∧ xs = [.ref p] ∧ (SqL K H p (ys.map V.str) ∨ SqT K H p (ys.map V.str)) ∧ (ys.map (·.length)).sum + ys.length * a.length ≤ 16777216 ∧ Q (.str (Txt.join a ys)) H
section
variable {X : Cx}
theorem call_len_ : CallR X (.builtin "len") (rLen X.K) := call_len
theorem call_int_ : CallR X (.type "int") rInt := call_int1
theorem call_bool_ : CallR X (.type "bool") rBool := call_bool1
theorem call_abs_ : CallR X (.builtin "abs") rAbs := call_abs
theorem call_max2_ (hc : X.calm = true) : CallR X (.builtin "max") rMax2 := call_max2 hc
theorem call_min2_ (hc : X.calm = true) : CallR X (.builtin "min") rMin2 := call_min2 hc
theorem call_tupOf : CallR X (.type "tuple") (rTupOf X.K) := call_tuple_of
theorem mt_endswith_ : MtR X "str.endswith" rEnds := mt_endswith
theorem mt_startswith_ : MtR X "str.startswith" rStarts := mt_startswith
theorem mt_join_ : MtR X "str.join" (rJoin X.K) := mt_join
end
/-! ### dicts by value -/
def valD {κ α : Type} [DecidableEq κ] (kvs : List (κ × α)) (k : κ) : Option α := (kvs.find? fun kv => decide (kv.1 = k)).map (·.2)
def putKV {κ α : Type} [DecidableEq κ] (kvs : List (κ × α)) (k : κ) (v : α) : List (κ × α) :=
  if (kvs.any fun kv => decide (kv.1 = k)) = true then kvs.map (fun kv => if kv.1 = k then (kv.1, v) else kv) else kvs ++ [(k, v)]
theorem key_dec (a b : DKey) : decide (a.toK = b.toK) = decide (a = b) := by
  by_cases h : a = b
  · rw [decide_eq_true h, decide_eq_true (by rw [h])]
  · rw [decide_eq_false h, decide_eq_false fun e => h (DKey.toK_inj e)]
section
variable {K : PySem.W.Frag} {B : Hp}
theorem RepD.length : ∀ {xs : List (Key × V)} {kvs : List (DKey × Dat)}, RepD K B xs kvs → xs.length = kvs.length
  | _, _, .nil => rfl
  | _, _, .cons _ t => by rw [List.length_cons, List.length_cons, RepD.length t]
theorem RepD.val (k : DKey) : ∀ {xs : List (Key × V)} {kvs : List (DKey × Dat)}, RepD K B xs kvs → (valV xs k.toK = none ∧ valD kvs k = none) ∨ ∃ v d, valV xs k.toK = some v ∧ valD kvs k = some d ∧ Rep K B v d
  | _, _, .nil => .inl ⟨rfl, rfl⟩
  | _, _, @RepD.cons _ _ k0 v d xs ds r t => by
    unfold valV valD
    rw [List.find?_cons, List.find?_cons]
    simp only [key_dec]
    by_cases h : k0 = k
    · rw [decide_eq_true h]
      exact .inr ⟨v, d, rfl, rfl, r⟩
    · rw [decide_eq_false h]
      exact RepD.val k t
theorem RepD.any (k : DKey) : ∀ {xs : List (Key × V)} {kvs : List (DKey × Dat)}, RepD K B xs kvs → (xs.any fun kv => decide (kv.1 = k.toK)) = kvs.any fun kv => decide (kv.1 = k)
  | _, _, .nil => rfl
  | _, _, .cons r t => by
    rw [List.any_cons, List.any_cons, RepD.any k t]
    simp only [key_dec]
theorem RepD.repl {v : V} {d : Dat} (k : DKey) (r : Rep K B v d) : ∀ {xs : List (Key × V)} {kvs : List (DKey × Dat)}, RepD K B xs kvs → RepD K B (xs.map fun kv => if kv.1 = k.toK then (kv.1, v) else kv) (kvs.map fun kv => if kv.1 = k then (kv.1, d) else kv)
  | _, _, .nil => .nil
  | _, _, @RepD.cons _ _ k0 v0 d0 xs ds q t => by
    rw [List.map_cons, List.map_cons]
    by_cases h : k0 = k
    · rw [if_pos (show k0.toK = k.toK by rw [h]), if_pos h]
      exact .cons r (RepD.repl k r t)
    · rw [if_neg (fun e => h (DKey.toK_inj e)), if_neg h]
      exact .cons q (RepD.repl k r t)
theorem RepD.snoc {v : V} {d : Dat} (k : DKey) (r : Rep K B v d) : ∀ {xs : List (Key × V)} {kvs : List (DKey × Dat)}, RepD K B xs kvs → RepD K B (xs ++ [(k.toK, v)]) (kvs ++ [(k, d)])
  | _, _, .nil => .cons r .nil
  | _, _, .cons q t => .cons q (RepD.snoc k r t)
theorem RepD.put {v : V} {d : Dat} (k : DKey) (r : Rep K B v d) {xs : List (Key × V)} {kvs : List (DKey × Dat)} (t : RepD K B xs kvs) : RepD K B (putK xs k.toK v) (putKV kvs k d) := by
  unfold putK putKV
  rw [t.any k]
  by_cases h : (kvs.any fun kv => decide (kv.1 = k)) = true
  · rw [if_pos h, if_pos h]; exact t.repl k r
  · rw [if_neg h, if_neg h]; exact t.snoc k r
/-- data that is a key -/
inductive KeyD : Dat → DKey → Prop
  | i (n : Int) : KeyD (.int n) (.i n)
  | s (w : List Nat) : KeyD (.str w) (.s w)
theorem KeyD.rep {x : Dat} {k : DKey} {v : V} (h : KeyD x k) (r : Rep K B v x) : v = kV k.toK := by
  cases h <;> cases r <;> rfl
end

section
variable {K : KB} {w w1 : Bool} {ρ : LS} {ta tb tc te ty td tx : TE} {R : Dat → Prop} {t : TA}
/-- d.get(k) -/
theorem g_dget1 (h : G K w ρ td fun x => ∃ kvs, x = .dk kvs ∧ G K w ρ ty fun y => ∃ k, KeyD y k ∧ R ((valD kvs k).getD .non)) : G K w ρ (tDGet1 td ty) R := fun c σ H o Q q =>
  h c σ H o _ fun v H1 d o1 l1 r1 ⟨kvs, e, h1⟩ => by
    subst e
    cases r1 with
    | @dk a xs _ ha rk =>
    refine ⟨a, rfl, .inl ⟨xs, .inl (vw_le a _ ha)⟩, h1 c σ H1 o1 _ fun y H2 d o2 l2 r2 ⟨k, hk, kr⟩ => ⟨_, .inl ⟨xs, k.toK, .inl (vw_le a _ (l2.vw a _ ha)), hk.rep r2, rfl⟩, ?_⟩⟩
    rcases (rk.mono l2.vw).val k with ⟨e1, e2⟩ | ⟨v, d, e1, e2, r⟩
    · rw [e1]; rw [e2] at kr
      exact q _ H2 _ o2 (l1.trans l2) .non kr
    · rw [e1]; rw [e2] at kr
      exact q _ H2 _ o2 (l1.trans l2) r kr
theorem g_dget2 (h : G K w ρ td fun x => ∃ kvs, x = .dk kvs ∧ G K w ρ ty fun y => ∃ k, KeyD y k ∧ G K w ρ tx fun z => R ((valD kvs k).getD z)) : G K w ρ (tDGet2 td ty tx) R := fun c σ H o Q q =>
  h c σ H o _ fun v H1 d o1 l1 r1 ⟨kvs, e, h1⟩ => by
    subst e
    cases r1 with
    | @dk a xs _ ha rk =>
    refine ⟨a, rfl, .inl ⟨xs, .inl (vw_le a _ ha)⟩, h1 c σ H1 o1 _ fun y H2 d o2 l2 r2 ⟨k, hk, h2⟩ => h2 c σ H2 o2 _ fun z H3 dz o3 l3 r3 kr => ⟨_, .inl ⟨xs, k.toK, .inl (vw_le a _ ((l2.trans l3).vw a _ ha)), hk.rep r2, rfl⟩, ?_⟩⟩
    rcases (rk.mono (l2.trans l3).vw).val k with ⟨e1, e2⟩ | ⟨v, d, e1, e2, r⟩
    · rw [e1]; rw [e2] at kr
      exact q _ H3 _ o3 ((l1.trans l2).trans l3) r3 kr
    · rw [e1]; rw [e2] at kr
      exact q _ H3 _ o3 ((l1.trans l2).trans l3) r kr
/-- d[k] -/
theorem g_dix (h : G K w ρ td fun x => ∃ kvs, x = .dk kvs ∧ G K w ρ ty fun y => ∃ k d, KeyD y k ∧ valD kvs k = some d ∧ R d) : G K w ρ (tDGet td ty) R := fun c σ H o Q q =>
  h c σ H o _ fun v H1 d o1 l1 r1 ⟨kvs, e, h1⟩ => by
    subst e
    cases r1 with
    | @dk a xs _ ha rk =>
    refine h1 c σ H1 o1 _ fun y H2 dy o2 l2 r2 ⟨k, d, hk, hv, kr⟩ => ?_
    rcases (rk.mono l2.vw).val k with ⟨e1, e2⟩ | ⟨v, d', e1, e2, r⟩
    · rw [hv] at e2; cases e2
    · rw [hv] at e2
      cases e2
      exact ⟨a, v, rfl, .inl ⟨xs, k.toK, .inl (vw_le a _ (l2.vw a _ ha)), hk.rep r2, e1.symm⟩, q _ H2 _ o2 (l1.trans l2) r kr⟩
theorem g_din (h : G K true ρ ty fun y => ∃ k, KeyD y k ∧ G K true ρ td fun x => ∃ kvs, x = .dk kvs ∧ R (.bl (valD kvs k).isSome)) : G K w ρ (tDIn ty td) R := fun c σ H o Q q =>
  h c σ H o _ fun y H1 d o1 l1 r1 ⟨k, hk, h1⟩ => h1 c σ H1 o1 _ fun v H2 d o2 l2 r2 ⟨kvs, e, kr⟩ => by
    subst e
    cases r2 with
    | @dk a xs _ ha rk =>
    refine ⟨a, _, rfl, .inl ⟨xs, k.toK, .inl (vw_le a _ ha), hk.rep r1, rfl⟩, ?_⟩
    rcases rk.val k with ⟨e1, e2⟩ | ⟨v, d, e1, e2, r⟩
    · rw [e1]; rw [e2] at kr
      exact q _ H2 _ o2 (l1.trans l2) (.bl _) kr
    · rw [e1]; rw [e2] at kr
      exact q _ H2 _ o2 (l1.trans l2) (.bl _) kr
theorem g_dnotin (h : G K true ρ ty fun y => ∃ k, KeyD y k ∧ G K true ρ td fun x => ∃ kvs, x = .dk kvs ∧ R (.bl (!(valD kvs k).isSome))) : G K w ρ (tDNotIn ty td) R := fun c σ H o Q q =>
  h c σ H o _ fun y H1 d o1 l1 r1 ⟨k, hk, h1⟩ => h1 c σ H1 o1 _ fun v H2 d o2 l2 r2 ⟨kvs, e, kr⟩ => by
    subst e
    cases r2 with
    | @dk a xs _ ha rk =>
    refine ⟨a, _, rfl, .inl ⟨xs, k.toK, .inl (vw_le a _ ha), hk.rep r1, rfl⟩, ?_⟩
    rcases rk.val k with ⟨e1, e2⟩ | ⟨v, d, e1, e2, r⟩
    · rw [e1]; rw [e2] at kr
      exact q _ H2 _ o2 (l1.trans l2) (.bl _) kr
    · rw [e1]; rw [e2] at kr
      exact q _ H2 _ o2 (l1.trans l2) (.bl _) kr

/-! ### built-ins -/
theorem oc_len_str {s : List Nat} (hl : s.length ≤ 1000000) (k : R (.int s.length)) : OpC K w1 w ρ (rLen K) [.str s] R := fun c σ H us o r Q q => by
  cases r with
  | cons r1 r2 =>
  cases r1
  cases r2
  refine ⟨_, s.length, rfl, ⟨by rw [S_len]; exact big hl, (S_len s).symm⟩, q _ H _ o .refl (.int _) k⟩
theorem oc_len_lst {ds : List Dat} (k : R (.int ds.length)) : OpC K w1 w ρ (rLen K) [.lst ds] R := fun c σ H us o r Q q => by
  cases r with
  | cons r1 r2 =>
  cases r2
  cases r1 with
  | @lst a xs _ ha rl => exact ⟨_, ds.length, rfl, .inl ⟨xs, .inl (.inl (vw_le a _ ha)), rl.length.symm⟩, q _ H _ o .refl (.int _) k⟩
theorem oc_len_tup {ds : List Dat} (k : R (.int ds.length)) : OpC K w1 w ρ (rLen K) [.tup ds] R := fun c σ H us o r Q q => by
  cases r with
  | cons r1 r2 =>
  cases r2
  cases r1 with
  | @tup a xs _ ha rl => exact ⟨_, ds.length, rfl, .inr ⟨xs, ex_t vw_le ha, rl.length.symm⟩, q _ H _ o .refl (.int _) k⟩
theorem oc_len_scr {ns : List Int} (k : R (.int ns.length)) : OpC K w1 w ρ (rLen K) [.scr ns] R := fun c σ H us o r Q q => by
  cases r with
  | cons r1 r2 =>
  cases r2
  cases r1 with
  | @scr a _ ha => exact ⟨_, ns.length, rfl, .inl ⟨_, ex_l vw_le ha, by simp⟩, q _ H _ o .refl (.int _) k⟩
theorem oc_int {i : Int} (k : R (.int i)) : OpC K w1 w ρ rInt [.int i] R := fun c σ H us o r Q q => by
  cases r with
  | cons r1 r2 =>
  cases r1
  cases r2
  exact .inl ⟨i, rfl, q _ H _ o .refl (.int _) k⟩
theorem oc_intB {b : Bool} (k : R (.int (if b then 1 else 0))) : OpC K w1 w ρ rInt [.bl b] R := fun c σ H us o r Q q => by
  cases r with
  | cons r1 r2 =>
  cases r1
  cases r2
  exact .inr ⟨b, rfl, q _ H _ o .refl (.int _) k⟩
theorem oc_boolB {b : Bool} (k : R (.bl b)) : OpC K w1 w ρ rBool [.bl b] R := fun c σ H us o r Q q => by
  cases r with
  | cons r1 r2 =>
  cases r1
  cases r2
  exact .inr ⟨b, rfl, q _ H _ o .refl (.bl _) k⟩
theorem oc_abs {i : Int} (k : R (.int (if i < 0 then -i else i))) : OpC K w1 w ρ rAbs [.int i] R := fun c σ H us o r Q q => by
  cases r with
  | cons r1 r2 =>
  cases r1
  cases r2
  exact ⟨i, rfl, q _ H _ o .refl (.int _) k⟩
theorem oc_max2 {i j : Int} (k : R (.int (max i j))) : OpC K w1 w ρ rMax2 [.int i, .int j] R := fun c σ H us o r Q q => by
  cases r with
  | cons r1 r2 =>
  cases r2 with
  | cons r2 r3 =>
  cases r1
  cases r2
  cases r3
  refine ⟨i, j, rfl, ?_⟩
  have e : (if j > i then j else i) = max i j := by split <;> omega
  rw [e]
  exact q _ H _ o .refl (.int _) k
theorem oc_min2 {i j : Int} (k : R (.int (min i j))) : OpC K w1 w ρ rMin2 [.int i, .int j] R := fun c σ H us o r Q q => by
  cases r with
  | cons r1 r2 =>
  cases r2 with
  | cons r2 r3 =>
  cases r1
  cases r2
  cases r3
  refine ⟨i, j, rfl, ?_⟩
  have e : (if j < i then j else i) = min i j := by split <;> omega
  rw [e]
  exact q _ H _ o .refl (.int _) k
theorem oc_maxL {ns : List Int} (h0 : 0 < ns.length) (k : ∀ m, m ∈ ns → (∀ y, y ∈ ns → y ≤ m) → R (.int m)) : OpC K w1 w ρ (rMax K) [.lst (ns.map .int)] R := fun c σ H us o r Q q => by
  cases r with
  | cons r1 r2 =>
  cases r2
  cases r1 with
  | @lst a xs _ ha rl =>
  exact ⟨a, ns, rfl, .inl (.inl (by rw [← rl.ints]; exact vw_le a _ ha)), h0, fun m h1 h2 => q _ H _ o .refl (.int _) (k m h1 h2)⟩
theorem oc_minL {ns : List Int} (h0 : 0 < ns.length) (k : ∀ m, m ∈ ns → (∀ y, y ∈ ns → m ≤ y) → R (.int m)) : OpC K w1 w ρ (rMin K) [.lst (ns.map .int)] R := fun c σ H us o r Q q => by
  cases r with
  | cons r1 r2 =>
  cases r2
  cases r1 with
  | @lst a xs _ ha rl =>
  exact ⟨a, ns, rfl, .inl (.inl (by rw [← rl.ints]; exact vw_le a _ ha)), h0, fun m h1 h2 => q _ H _ o .refl (.int _) (k m h1 h2)⟩
theorem oc_sum {ns : List Int} (k : R (.int ns.sum)) : OpC K w1 w ρ (rSum K) [.lst (ns.map .int)] R := fun c σ H us o r Q q => by
  cases r with
  | cons r1 r2 =>
  cases r2
  cases r1 with
  | @lst a xs _ ha rl =>
  exact ⟨a, ns, rfl, .inl (.inl (by rw [← rl.ints]; exact vw_le a _ ha)), q _ H _ o .refl (.int _) k⟩
theorem oc_any {bs : List Bool} (k : R (.bl (bs.any id))) : OpC K w1 w ρ (rAny K) [.lst (bs.map .bl)] R := fun c σ H us o r Q q => by
  cases r with
  | cons r1 r2 =>
  cases r2
  cases r1 with
  | @lst a xs _ ha rl =>
  exact ⟨a, bs, rfl, .inl (.inl (by rw [← rl.bools]; exact vw_le a _ ha)), q _ H _ o .refl (.bl _) k⟩
theorem oc_all {bs : List Bool} (k : R (.bl (bs.all id))) : OpC K w1 w ρ (rAll K) [.lst (bs.map .bl)] R := fun c σ H us o r Q q => by
  cases r with
  | cons r1 r2 =>
  cases r2
  cases r1 with
  | @lst a xs _ ha rl =>
  exact ⟨a, bs, rfl, .inl (.inl (by rw [← rl.bools]; exact vw_le a _ ha)), q _ H _ o .refl (.bl _) k⟩
/-- tuple(list) -/
theorem oc_tuple {ds : List Dat} (k : R (.tup ds)) : OpC K w w ρ (rTupOf K) [.lst ds] R := fun c σ H us o r Q q => by
  cases r with
  | cons r1 r2 =>
  cases r2
  cases r1 with
  | @lst a xs _ ha rl =>
  exact ⟨a, xs, rfl, .inl ⟨.inl (.inl (vw_le a _ ha)), fun p hp => q _ _ _ (o.ex (Ex.new hp)) (Ex.new hp).le (.tup (.inl (.inl (o.vw_new hp))) (rl.mono (Le.vw (Ex.new hp).le))) k⟩⟩
theorem oc_tupleT {ds : List Dat} (k : R (.tup ds)) : OpC K w w ρ (rTupOf K) [.tup ds] R := fun c σ H us o r Q q => by
  cases r with
  | cons r1 r2 =>
  cases r2
  cases r1 with
  | @tup a xs _ ha rl => exact ⟨a, xs, rfl, .inr ⟨ex_t vw_le ha, q _ H _ o .refl (.tup ha rl) k⟩⟩
/-- list(x): a new list -/
def rListOf (K : PySem.W.Frag) : List V → Hp → VK → Prop := fun xs H Q => ∃ p ys, xs = [.ref p] ∧ (SqL K H p ys ∨ SqT K H p ys) ∧ ∀ l, H l = none → Q (.ref l) (upd H l (.lst ys))
theorem g_fresh_of {c : Bc} {σ : St} {H H1 : Hp} (o1 : Ok K c ρ σ H1) (l : Le c ρ σ H H1) {p : Addr} (hp : H1 p = none) : H p = none := by
  cases e : H p with
  | none => rfl
  | some ob =>
    have nv := o1.vis (w := false) hp
    rw [l p ob (fun z => nv (.inr (by rw [if_neg Bool.false_ne_true]; exact z.pr))) e] at hp
    cases hp
theorem slr_new {c : Bc} {σ : St} {H1 : Hp} {p : Addr} {us : List V} {xs : List Dat} (hp : H1 p = none) (r1 : RepL K (sv c ρ σ H1) us xs) : SlR K (hid (fun b => b = p) (sv c ρ σ (upd H1 p (.lst us)))) (upd H1 p (.lst us)) (.own xs) (some (.ref p)) :=
  ⟨p, us, rfl, upd_same, r1.mono fun b ob hb => by
    have nb : b ≠ p := fun z => by rw [z] at hb; rw [vw_le p _ hb] at hp; cases hp
    exact hid_some.mpr ⟨nb, (Le.vw (w := false) (c := c) (ρ := ρ) (σ := σ) (Ex.new hp).le) b ob hb⟩⟩
theorem gn_list {RS : Slot → Prop} (h : GA K false ρ t fun xs => ∃ ds, (xs = [.lst ds] ∨ xs = [.tup ds]) ∧ RS (.own ds)) : GN K ρ (tCB (rListOf K) t) RS := fun c σ H o Q q =>
  h c σ H o _ fun us H1 xs o1 l1 r1 ⟨ds, e, k⟩ => by
    rcases e with rfl | rfl
    · cases r1 with
      | cons r1 r2 =>
      cases r2
      cases r1 with
      | @lst a xs _ ha rl => exact ⟨a, xs, rfl, .inl (.inl (.inl (vw_le a _ ha))), fun p hp => q p _ (.own ds) (o1.ex (Ex.new hp)) (l1.trans (Ex.new hp).le) (g_fresh_of o1 l1 hp) (slr_new hp rl) rfl k⟩
    · cases r1 with
      | cons r1 r2 =>
      cases r2
      cases r1 with
      | @tup a xs _ ha rl => exact ⟨a, xs, rfl, .inr (ex_t vw_le ha), fun p hp => q p _ (.own ds) (o1.ex (Ex.new hp)) (l1.trans (Ex.new hp).le) (g_fresh_of o1 l1 hp) (slr_new hp rl) rfl k⟩
/-- list(x), x an own list -/
theorem gn_listO {RS : Slot → Prop} {i : Nat} {ds : List Dat} (he : ρ[i]? = some (.own ds)) (k : RS (.own ds)) : GN K ρ (tCB (rListOf K) (tCons (tVar i) tNil)) RS := fun c σ H o Q q => by
  obtain ⟨v, e, a, xs, rfl, ha, rl⟩ := o.get he
  exact ⟨_, e, a, xs, rfl, .inl (.inl (.inl ha)), fun p hp => q p _ (.own ds) (o.ex (Ex.new hp)) (Ex.new hp).le hp (slr_new hp rl) rfl k⟩
/-- tuple(x), x an own list -/
theorem g_tupleO {i : Nat} {ds : List Dat} (he : ρ[i]? = some (.own ds)) (k : R (.tup ds)) : G K w ρ (tCB (rTupOf K) (tCons (tVar i) tNil)) R := fun c σ H o Q q => by
  obtain ⟨v, e, a, xs, rfl, ha, rl⟩ := o.get he
  exact ⟨_, e, a, xs, rfl, .inl ⟨.inl (.inl ha), fun p hp => q _ _ _ (o.ex (Ex.new hp)) (Ex.new hp).le (.tup (.inl (.inl (o.vw_new hp))) ((rl.mono vw_up2).mono (Le.vw (Ex.new hp).le))) k⟩⟩
/-- x + y with an own list on the left -/
theorem gn_catO {RS : Slot → Prop} {i : Nat} {ds : List Dat} (he : ρ[i]? = some (.own ds)) (h : G K false ρ tb fun y => ∃ es, y = .lst es ∧ ds.length + es.length ≤ 1000000 ∧ RS (.own (ds ++ es))) : GN K ρ (tOp rCat (tVar i) tb) RS := fun c σ H o Q q => by
  obtain ⟨v, e, a, xs, rfl, ha, rl⟩ := o.get he
  refine ⟨_, e, h c σ H o _ fun v H2 d o2 l r ⟨es, ed, hl, k⟩ => ?_⟩
  subst ed
  obtain ⟨v', e', a', xs', q1, ha', rl'⟩ := o2.get he
  rw [e] at e'
  cases e'
  cases q1
  cases r with
  | @lst b ys _ hb ry => exact ⟨a, b, xs', ys, rfl, rfl, ha', vw_le b _ hb, by rw [rl'.length, ry.length]; exact big hl, fun p hp => q p _ (.own _) (o2.ex (Ex.new hp)) (l.trans (Ex.new hp).le) (g_fresh_of o2 l hp) (slr_new hp (rl'.append ry)) rfl k⟩

/-! ### texts -/
def endsW (a b : List Nat) : Bool := Txt.endswith (S a) (S b)
def startsW (a b : List Nat) : Bool := Txt.startswith (S a) (S b)
theorem g_ends (h : G K true ρ ta fun x => ∃ a, x = .str a ∧ G K true ρ tb fun y => ∃ b, y = .str b ∧ R (.bl (endsW a b))) : G K w ρ (tM1 rEnds ta tb) R := fun c σ H o Q q =>
  h c σ H o _ fun v H1 d o1 l1 r1 ⟨a, e, h1⟩ => by
    subst e
    cases r1
    exact ⟨⟨_, rfl⟩, h1 c σ H1 o1 _ fun v H2 d o2 l2 r2 ⟨b, e, k⟩ => by
      subst e
      cases r2
      exact ⟨S a, S b, rfl, rfl, q _ H2 _ o2 (l1.trans l2) (.bl _) k⟩⟩
theorem g_starts (h : G K true ρ ta fun x => ∃ a, x = .str a ∧ G K true ρ tb fun y => ∃ b, y = .str b ∧ R (.bl (startsW a b))) : G K w ρ (tM1 rStarts ta tb) R := fun c σ H o Q q =>
  h c σ H o _ fun v H1 d o1 l1 r1 ⟨a, e, h1⟩ => by
    subst e
    cases r1
    exact ⟨⟨_, rfl⟩, h1 c σ H1 o1 _ fun v H2 d o2 l2 r2 ⟨b, e, k⟩ => by
      subst e
      cases r2
      exact ⟨S a, S b, rfl, rfl, q _ H2 _ o2 (l1.trans l2) (.bl _) k⟩⟩
def joinW (a : List Nat) (ws : List (List Nat)) : List Nat := (Txt.join (S a) (ws.map S)).cps.toList
theorem g_join (h : G K true ρ ta fun x => ∃ a, x = .str a ∧ G K true ρ tb fun y => ∃ ws : List (List Nat), y = .lst (ws.map .str) ∧ (ws.map List.length).sum + ws.length * a.length ≤ 16777216 ∧ R (.str (joinW a ws))) :
    G K w ρ (tM1 (rJoin K) ta tb) R := fun c σ H o Q q =>
  h c σ H o _ fun v H1 d o1 l1 r1 ⟨a, e, h1⟩ => by
    subst e
    cases r1
    exact ⟨⟨_, rfl⟩, h1 c σ H1 o1 _ fun v H2 d o2 l2 r2 ⟨ws, e, hz, k⟩ => by
      subst e
      cases r2 with
      | @lst p xs _ hp rl =>
      refine ⟨S a, p, ws.map S, rfl, rfl, .inl (.inl (.inl ?_)), ?_, ?_⟩
      · rw [List.map_map]
        have := rl.strs
        have e2 : (V.str ∘ S) = fun w : List Nat => V.str ⟨w.toArray⟩ := rfl
        rw [e2, ← this]
        exact vw_le p _ hp
      · rw [List.map_map, List.length_map, S_len]
        have e2 : ((fun x : Str => x.length) ∘ S) = List.length := funext fun w => S_len w
        rw [e2]
        exact hz
      · have : Rep K (vw c w ρ σ H2) (.str (Txt.join (S a) (ws.map S))) (.str (joinW a ws)) := by
          have h := Rep.str (K := K) (B := vw c w ρ σ H2) (joinW a ws)
          unfold joinW at h ⊢
          rw [Array.toArray_toList] at h
          exact h
        exact q _ H2 _ o2 (l1.trans l2) this k⟩

/-! ### truth -/
def tTr (K : PySem.W.Frag) (ta : TE) : TT := fun σ H Q => ta σ H fun x H' => ∃ k, TruV K x H' k ∧ Q k H'
/-- the truth of data -/
inductive TruD : Dat → Bool → Prop
  | non : TruD .non false
  | bl (b : Bool) : TruD (.bl b) b
  | int (i : Int) : TruD (.int i) (i != 0)
  | str (s : List Nat) (h : s.length ≤ 1000000) : TruD (.str s) (!s.isEmpty)
  | tup (ds : List Dat) : TruD (.tup ds) (!ds.isEmpty)
  | lst (ds : List Dat) : TruD (.lst ds) (!ds.isEmpty)
  | dk (ds : List (DKey × Dat)) : TruD (.dk ds) (!ds.isEmpty)
theorem gt_tr {RT : Bool → Prop} (h : G K true ρ ta fun x => ∃ b, TruD x b ∧ RT b) : GT K ρ (tTr K ta) RT := fun c σ H o Q q =>
  h c σ H o _ fun v H1 d o1 l1 r1 ⟨b, hb, k⟩ => by
    refine ⟨b, ?_, q b H1 o1 l1 k⟩
    cases hb with
    | non => cases r1; rfl
    | bl b => cases r1; rfl
    | int i => cases r1; rfl
    | str s h =>
      cases r1
      refine ⟨by rw [S_len]; exact big h, ?_⟩
      rw [S_len]
      cases s with
      | nil => rfl
      | cons a s =>
        simp [bne]
        omega
    | tup ds =>
      cases r1 with
      | @tup a xs _ ha rl =>
      refine .inr (.inl ⟨xs, ex_t vw_le ha, ?_⟩)
      cases rl <;> rfl
    | lst ds =>
      cases r1 with
      | @lst a xs _ ha rl =>
      refine .inl ⟨xs, .inl (.inl (vw_le a _ ha)), ?_⟩
      cases rl <;> rfl
    | dk ds =>
      cases r1 with
      | @dk a xs _ ha rl =>
      refine .inr (.inr ⟨xs, vw_le a _ ha, ?_⟩)
      cases rl <;> rfl

/-! ### chains -/
theorem g_chain {r r' : R2} (h : G K true ρ ta fun x => G K true ρ tb fun y => Op2 K true true ρ r x y fun z => ∃ k, z = .bl k ∧ (k = true → G K true ρ tc fun u => Op2 K true w ρ r' y u R) ∧ (k = false → R (.bl false))) : G K w ρ (tChain r r' ta tb tc) R := fun c σ H o Q q =>
  h c σ H o _ fun u H1 x o1 l1 r1 h1 => h1 c σ H1 o1 _ fun v H2 y o2 l2 r2 h2 => h2 c σ H2 u v o2 (r1.mono l2.vw) r2 _ fun z H3 d o3 l3 r3 ⟨k, e, k1, k2⟩ => by
    subst e
    cases r3
    refine ⟨k, rfl, ?_⟩
    cases k with
    | true =>
      rw [if_pos rfl]
      exact k1 rfl c σ H3 o3 _ fun x H4 d o4 l4 r4 h4 => h4 c σ H4 v x o4 (r2.mono (l3.trans l4).vw) r4 Q fun z H5 d o5 l5 r5 h5 => q z H5 d o5 ((((l1.trans l2).trans l3).trans l4).trans l5) r5 h5
    | false =>
      rw [if_neg Bool.false_ne_true]
      exact q _ H3 _ o3 ((l1.trans l2).trans l3) (.bl false) (k2 rfl)

/-! ### fields -/
theorem g_fld {f : Str} {C : Addr} (cl : Cls K C) (na : NoAttr K C f) (h : G K w ρ ta fun x => ∃ fs d, x = .obj C fs ∧ fs.lookup f = some d ∧ R d) : G K w ρ (tFld K ta f) R := fun c σ H o Q q =>
  h c σ H o _ fun v H1 d o1 l1 r1 ⟨fs, d', e, hl, k⟩ => by
    subst e
    cases r1 with
    | @obj a _ dx xs _ ha rf =>
    obtain ⟨y, hy, ry⟩ := rf.lookup hl
    exact ⟨a, C, dx, xs, y, rfl, vw_le a _ ha, cl, na, hy, q y H1 d' o1 l1 ry k⟩
/-- self.f within an __init__ -/
theorem g_fldI {f : Str} {i : Nat} {a C : Addr} {fs : List (Str × Dat)} {d : Dat} (cl : Cls K C) (na : NoAttr K C f) (he : ρ[i]? = some (.ins a C fs)) (hl : fs.lookup f = some d) (k : R d) : G K w ρ (tFld K (tVar i) f) R := fun c σ H o Q q => by
  obtain ⟨v, e, dx, xs, ev, hx, rf⟩ := o.get he
  subst ev
  obtain ⟨y, hy, ry⟩ := rf.lookup hl
  exact ⟨_, e, _, C, dx, xs, y, rfl, hx, cl, na, hy, q y H d o .refl (ry.mono vw_up2) k⟩
end

section
variable {K : KB} {w : Bool} {ρ : LS} {ta tb te ty td tx : TE} {t u : TS} {N : LS → Prop} {R : Ret → LS → Prop} {B C : LS → Prop}
theorem run_fldI {f : Str} {i : Nat} {a Cl : Addr} {fs : List (Str × Dat)} (cl : Cls K Cl) (na : NoAttr K Cl f) (he : ρ[i]? = some (.ins a Cl fs)) (hz : fs.length < 1000) (h : G K false ρ te fun d => N (ρ.set i (.ins a Cl (putD f d fs)))) : Run K ρ (sFld K (tVar i) te f) N R B C := fun c D is σ H o =>
  h c σ H o _ fun v H1 d o1 l1 r1 k => by
    obtain ⟨v', e, dx, xs, rfl, hx, rf⟩ := o1.get he
    exact ⟨_, e, a, Cl, dx, xs, rfl, hx, cl, na, by rw [rf.length]; exact hz, is.nx _ _ _ (o1.write (s' := .ins a Cl (putD f d fs)) he e rfl rfl ⟨dx, _, rfl, upd_same, putF_rep r1 rf⟩) k⟩
/-- xs.append(e) -/
theorem run_app {i : Nat} {ds : List Dat} (he : ρ[i]? = some (.own ds)) (h : G K false ρ te fun d => ds.length < 1000000 ∧ N (ρ.set i (.own (ds ++ [d])))) : Run K ρ (tDrop (tBM K "list" rAppend (tVar i) (tCons te tNil))) N R B C := fun c D is σ H o => by
  obtain ⟨v, e, a, xs, rfl, ha, rl⟩ := o.get he
  refine ⟨_, e, .inl ⟨rfl, _, SqL.of ha⟩, h c σ H o _ fun v H1 d o1 l1 r1 k => ?_⟩
  obtain ⟨v', e', a', xs', q1, ha', rl'⟩ := o1.get he
  rw [e] at e'
  cases e'
  cases q1
  exact ⟨a, xs', v, rfl, rfl, ha', by rw [rl'.length]; exact bigL k.1, is.nx _ _ _ (o1.write (s' := .own (ds ++ [d])) he e rfl rfl ⟨a, _, rfl, upd_same, rl'.append (.one r1)⟩) k.2⟩
/-- y = xs.pop() -/
theorem run_pop {i j : Nat} {ds : List Dat} {d : Dat} (he : ρ[i]? = some (.own (ds ++ [d]))) (k : N ((ρ.set i (.own ds)).set j (.d d))) : Run K ρ (tAsg (tBM0 K "list" rPop (tVar i)) (gName j)) N R B C := fun c D is σ H o => by
  obtain ⟨v, e, a, xs, rfl, ha, rl⟩ := o.get he
  have hlen := rl.length
  rw [List.length_append, List.length_singleton] at hlen
  obtain ⟨y, hy, ry⟩ := rl.get (i := ds.length) (d := d) (by simp)
  have e1 : xs[xs.length - 1]? = some y := by
    rw [hlen]
    exact hy
  have rd : RepL K (sv c ρ σ H) xs.dropLast ds := by
    have h := rl.take ds.length
    have e2 : (ds ++ [d]).take ds.length = ds := by simp
    rw [e2] at h
    rw [List.dropLast_eq_take, hlen]
    exact h
  refine ⟨_, e, .inl ⟨rfl, _, SqL.of ha⟩, a, xs, y, rfl, rfl, ha, e1, ?_⟩
  have o1 : Ok K c (ρ.set i (.own ds)) σ (upd H a (.lst xs.dropLast)) := o.write he e rfl rfl ⟨a, _, rfl, upd_same, rd⟩
  refine is.nx _ _ _ (o1.setD (s := .d d) (v := some y) rfl ⟨y, rfl, ry.mono ?_⟩) k
  have hpr : Pr ρ σ a := ⟨i, _, _, he, e, rfl⟩
  refine hid_ex fun b ob hb e3 => ?_
  have hb2 : ¬ Pr ρ σ b := fun z => hb (.inr (by rw [if_neg Bool.false_ne_true]; exact z))
  refine ⟨fun z => ?_, by rw [upd_ne fun z => hb2 (by rw [z]; exact hpr)]; exact e3⟩
  rcases z with z | z
  · exact hb (.inl z)
  · rw [if_neg Bool.false_ne_true] at z
    obtain ⟨m, s1, v1, h1, h2, h3⟩ := z
    rcases set_get h1 with ⟨z, e4, _⟩ | ⟨z, e4⟩
    · subst z
      rw [e] at h2
      cases h2
      rw [e4] at h3
      cases h3
      exact hb2 hpr
    · exact hb2 ⟨m, s1, v1, e4, h2, h3⟩
/-- xs.pop() alone -/
theorem run_popD {i : Nat} {ds : List Dat} {d : Dat} (he : ρ[i]? = some (.own (ds ++ [d]))) (k : N (ρ.set i (.own ds))) : Run K ρ (tDrop (tBM0 K "list" rPop (tVar i))) N R B C := fun c D is σ H o => by
  obtain ⟨v, e, a, xs, rfl, ha, rl⟩ := o.get he
  have hlen := rl.length
  rw [List.length_append, List.length_singleton] at hlen
  obtain ⟨y, hy, ry⟩ := rl.get (i := ds.length) (d := d) (by simp)
  have e1 : xs[xs.length - 1]? = some y := by
    rw [hlen]
    exact hy
  have rd : RepL K (sv c ρ σ H) xs.dropLast ds := by
    have h := rl.take ds.length
    have e2 : (ds ++ [d]).take ds.length = ds := by simp
    rw [e2] at h
    rw [List.dropLast_eq_take, hlen]
    exact h
  exact ⟨_, e, .inl ⟨rfl, _, SqL.of ha⟩, a, xs, y, rfl, rfl, ha, e1, is.nx _ _ _ (o.write (s' := .own ds) he e rfl rfl ⟨a, _, rfl, upd_same, rd⟩) k⟩
/-- xs[j] = e -/
theorem run_setL {i : Nat} {ds : List Dat} (he : ρ[i]? = some (.own ds)) (h : G K false ρ te fun d => G K true ρ ty fun y => ∃ k j, y = .int k ∧ ixN ds.length k = some j ∧ N (ρ.set i (.own (ds.set j d)))) : Run K ρ (tAsg te (gSub (tVar i) ty rSetL)) N R B C := fun c D is σ H o =>
  h c σ H o _ fun v H1 d o1 l1 r1 h1 => by
    obtain ⟨v', e', a', xs', rfl, ha', rl'⟩ := o1.get he
    refine ⟨_, e', h1 c σ H1 o1 _ fun v2 H2 d2 o2 l2 r2 ⟨k, j, e, hj, kn⟩ => ?_⟩
    subst e
    cases r2
    obtain ⟨v3, e3, a3, xs3, q3, ha3, rl3⟩ := o2.get he
    rw [e'] at e3
    cases e3
    cases q3
    exact ⟨a', xs3, k, j, rfl, rfl, ha3, by rw [rl3.length]; exact hj, is.nx _ _ _ (o2.write (s' := .own (ds.set j d)) he e' rfl rfl ⟨a', _, rfl, upd_same, RepL.set (r1.mono l2.vw) j rl3⟩) kn⟩
/-- d[k] = e -/
theorem run_dput {i : Nat} {kvs : List (DKey × Dat)} (he : ρ[i]? = some (.od kvs)) (h : G K false ρ te fun d => G K true ρ ty fun y => ∃ k, KeyD y k ∧ kvs.length < 1000000 ∧ N (ρ.set i (.od (putKV kvs k d)))) : Run K ρ (sDPut (tVar i) ty te) N R B C := fun c D is σ H o =>
  h c σ H o _ fun v H1 d o1 l1 r1 h1 => by
    obtain ⟨v', e', a', xs', rfl, ha', rl'⟩ := o1.get he
    refine ⟨_, e', h1 c σ H1 o1 _ fun v2 H2 d2 o2 l2 r2 ⟨k, hk, hz, kn⟩ => ?_⟩
    obtain ⟨v3, e3, a3, xs3, q3, ha3, rl3⟩ := o2.get he
    rw [e'] at e3
    cases e3
    cases q3
    have hv := hk.rep r2
    subst hv
    exact ⟨a', _, rfl, DPut.k ha3 (by rw [rl3.length]; exact bigL hz), is.nx _ _ _ (o2.write (s' := .od (putKV kvs k d)) he e' rfl rfl ⟨a', _, rfl, upd_same, rl3.put k (r1.mono l2.vw)⟩) kn⟩
end
end BV

end

section
set_option maxHeartbeats 4000000
namespace BV
open PySem L2

section
variable {X : Cx}
theorem op_addS : OpR X (binaryOp .Add) rAddS := op_add_str
theorem op_ltS : OpR X (compareOp .Lt) rLtS := op_lt_str
theorem op_geS : OpR X (compareOp .GtE) rGeS := op_ge_str
theorem call_listOf : CallR X (.type "list") (rListOf X.K) := call_list_of
theorem pt_tr {a : Expr} {ta : TE} (ha : PE X a ta) (he : ∀ whole, isTrue a X.env whole = (do let v ← whole; standAt a.pos; holding [v] (truthy v)) := by intro _; rfl) : PT X a (tTr X.K ta) := pt_truth ha he
/-- < of data that are alike -/
def rLtD (K : PySem.W.Frag) : R2 := fun x y H Q => ∃ d e, Dp K H x d ∧ Dp K H y e ∧ PySem.W.alike d e = true ∧ d ≠ .none ∧ d.depth ≤ 64 ∧ Q (.bl (PySem.W.dataLt d e)) H
theorem op_ltD (hu : X.A.units + 64 < cLine) : OpR X (compareOp .Lt) (rLtD X.K) := by
  intro pins s σ H x y v u Q I rx ry h
  obtain ⟨d, e, hd, he, h1, h2, h3, q⟩ := h
  obtain ⟨as, r1⟩ := Dp.reads I d x v hd rx
  obtain ⟨bs, r2⟩ := Dp.reads I e y u he ry
  have hm : min d.depth e.depth ≤ d.depth := Nat.min_le_left _ _
  exact PySem.W.rcLt_alike d e X.A s v u as bs r1 r2 h1 h2 (by omega) X.prog X.w X.xe _ ⟨.bl _, H, I, rfl, q⟩
end
section
variable {K : KB} {w w1 : Bool} {ρ : LS} {ta tb tc te ty td tx : TE} {R : Dat → Prop} {t : TA}
theorem o2_ltD {x y : Dat} (hx : pln x = true) (hy : pln y = true) (h1 : PySem.W.alike (toP x) (toP y) = true) (h2 : toP x ≠ .none) (h3 : (toP x).depth ≤ 64) (k : R (.bl (PySem.W.dataLt (toP x) (toP y)))) : Op2 K w1 w ρ (rLtD K) x y R := fun c σ H u v o r1 r2 Q q =>
  ⟨toP x, toP y, Dp.monoL vw_le _ _ (dp_of _ _ r1 hx), Dp.monoL vw_le _ _ (dp_of _ _ r2 hy), h1, h2, h3, q _ H _ o .refl (.bl _) k⟩
/-- texts by their size, then by their signs -/
def kLt (a b : List Nat) : Bool := decide (a.length < b.length) || (decide (a.length = b.length) && decide (a < b))
theorem lt_key (a b : List Nat) : PySem.W.dataLt (toP (.tup [.int (a.length : Int), .str a])) (toP (.tup [.int (b.length : Int), .str b])) = kLt a b := by
  unfold PySem.W.dataLt
  simp only [toP, toPs, PySem.W.keyToks, PySem.W.keyToksAll, List.cons_append, List.nil_append, PyProof.Rows.lex_cons, S_list]
  have h0 : ∀ n : Int, PyProof.Rows.itemOrd.blt (Sum.inl n) (Sum.inl n) = false := fun n => PyProof.Rows.itemOrd.irrefl _
  have h1 : PyProof.Rows.itemOrd.blt (Sum.inl (a.length : Int)) (Sum.inl (b.length : Int)) = decide (a.length < b.length) := by
    show decide ((a.length : Int) < (b.length : Int)) = _
    simp
  have h2 : PyProof.Rows.itemOrd.blt (Sum.inl (b.length : Int)) (Sum.inl (a.length : Int)) = decide (b.length < a.length) := by
    show decide ((b.length : Int) < (a.length : Int)) = _
    simp
  have h3 : PyProof.Rows.itemOrd.blt (Sum.inr a) (Sum.inr b) = decide (a < b) := rfl
  have h4 : PyProof.Rows.lexLt PyProof.Rows.itemOrd [] [] = false := rfl
  have lc := @PyProof.Rows.lex_cons PyProof.Rows.itemOrd
  rw [lc, lc, lc, lc, lc, h4, h0, h0, h1, h2, h3]
  have h5 : ∀ n : Int, PyProof.Rows.itemOrd.blt (Sum.inl n) (Sum.inl n) = false := h0
  simp only [Bool.false_or, Bool.not_false, Bool.true_and, Bool.and_false, Bool.or_false]
  unfold kLt
  by_cases e1 : a.length < b.length
  · simp [e1]
  · by_cases e2 : b.length < a.length
    · have e3 : ¬ a.length = b.length := by omega
      simp [e1, e2, e3]
    · have e3 : a.length = b.length := by omega
      simp [e1, e2, e3]
theorem o2_ltKey {a b : List Nat} (k : R (.bl (kLt a b))) : Op2 K w1 w ρ (rLtD K) (.tup [.int (a.length : Int), .str a]) (.tup [.int (b.length : Int), .str b]) R :=
  o2_ltD rfl rfl rfl (fun e => by cases e) (by show _ ≤ 64; simp [toP, toPs, PyData.depth, PyData.depthAll]) (by rw [lt_key]; exact k)
theorem rep_flatL {K : PySem.W.Frag} {B : Hp} {xs : List V} {ds : List Dat} : ∀ n : Nat, RepL K B xs ds → RepL K B (List.replicate n xs).flatten (List.replicate n ds).flatten
  | 0, _ => .nil
  | n + 1, r => by
    rw [List.replicate_succ, List.replicate_succ, List.flatten_cons, List.flatten_cons]
    exact r.append (rep_flatL n r)
theorem o2_rep {n : Int} {xs : List Dat} (h1 : -(2 ^ 63) ≤ n) (h2 : n < 2 ^ 63) (h3 : xs.length * n.toNat ≤ 1000000) (k : R (.lst (List.replicate n.toNat xs).flatten)) : Op2 K w w ρ rRep (.lst xs) (.int n) R := fun c σ H u v o r1 r2 Q q => by
  cases r2
  cases r1 with
  | @lst a us _ ha rl =>
  refine ⟨a, n, us, rfl, rfl, vw_le a _ ha, h1, h2, by rw [rl.length]; exact big h3, fun p hp => q _ _ _ (o.ex (Ex.new hp)) (Ex.new hp).le (.lst (o.vw_new hp) ?_) k⟩
  have r' := rl.mono (Le.vw (w := w) (c := c) (ρ := ρ) (σ := σ) (Ex.new (o := .lst (List.replicate n.toNat us).flatten) hp).le)
  exact rep_flatL n.toNat r'

/-! ### isinstance -/
def tyN : Dat → String
  | .non => "NoneType"
  | .bl _ => "bool"
  | .int _ => "int"
  | .str _ => "str"
  | .tup _ => "tuple"
  | .lst _ => "list"
  | .scr _ => "list"
  | .dk _ => "dict"
  | .dt _ => "dict"
  | .fk _ => "dict"
  | _ => ""
def bas : Dat → Bool
  | .obj _ _ => false
  | .oth _ => false
  | _ => true
theorem tyX {K : PySem.W.Frag} {B : Hp} {v : V} {x : Dat} (r : Rep K B v x) (hb : bas x = true) : TyX K B v (.type (tyN x)) := by
  cases r with
  | non => exact .base .non
  | bl b => exact .base (.bl b)
  | int i => exact .base (.int i)
  | str s => exact .base (.str _)
  | tup s _ =>
    rcases s with (s | ⟨o, s⟩) | ⟨o, _, _, h1, h2, _⟩
    · exact .base (.tup s)
    · exact .fTuple s
    · exact .kTuple h1 h2
  | lst s _ => exact .base (.lst s)
  | scr s =>
    rcases s with (s | ⟨o, s⟩) | ⟨o, _, _, h1, h2, _⟩
    · exact .base (.lst s)
    · exact .base (.frz s)
    · exact .kList h1 h2
  | dk s _ => exact .base (.dK s)
  | dt s _ => exact .base (.dT s)
  | fk s _ => exact .fDict s
  | obj _ _ => cases hb
  | oth v => cases hb
theorem TyX.mono {K : PySem.W.Frag} {B B' : Hp} (e : Ex B B') {v : V} {t : Value} (h : TyX K B v t) : TyX K B' v t := by
  cases h with
  | base b =>
    cases b with
    | non => exact .base .non
    | bl b => exact .base (.bl b)
    | int i => exact .base (.int i)
    | str s => exact .base (.str _)
    | flt x => exact .base (.flt _)
    | lst h => exact .base (.lst (e _ _ h))
    | frz h => exact .base (.frz (e _ _ h))
    | tup h => exact .base (.tup (e _ _ h))
    | dK h => exact .base (.dK (e _ _ h))
    | dT h => exact .base (.dT (e _ _ h))
    | ins h cl ha hn htk hm => exact .base (.ins (e _ _ h) cl ha hn htk hm)
  | byt b => exact .byt b
  | set h => exact .set (e _ _ h)
  | kList h c => exact .kList h c
  | kTuple h c => exact .kTuple h c
  | kDict h c => exact .kDict h c
  | fTuple h => exact .fTuple (e _ _ h)
  | fDict h => exact .fDict (e _ _ h)
theorem oc_isi {x : Dat} {n : String} {b : Bool} (hb : bas x = true) (hk : kitB (tyN x) n = some b) (k : R (.bl b)) : OpC K w1 w ρ (rIsi K) [x, .oth (.ty n)] R := fun c σ H us o r Q q => by
  cases r with
  | cons r1 r2 =>
  cases r2 with
  | cons r2 r3 =>
  cases r3
  cases r2
  exact ⟨_, .ty n, _, .type n, b, rfl, .ty n, TyX.mono vw_le (tyX r1 hb), kit_ty hk, q _ H _ o .refl (.bl _) k⟩
theorem g_oth {v : V} (k : R (.oth v)) : G K w ρ (tC v) R := fun c σ H o Q q => q _ H _ o .refl (.oth v) k

/-! ### a call of an instance -/
theorem spF_append {S : List Dat → (Dat → Prop) → Prop} : True := trivial
end
end BV

end

section
set_option maxHeartbeats 4000000
namespace BV
open PySem PySem.Spec L2
open PyProof.Rows (envOfC)

/-! ### repr of what stands alone -/
def rRepr : List V → Hp → VK → Prop := fun xs H Q => (∃ z : Str, xs = [.str z] ∧ (reprText z).length ≤ sizeLine ∧ Q (.str (reprText z)) H) ∨ (∃ b : Bool, xs = [.bl b] ∧ Q (.str (if b then "True" else "False")) H) ∨ (xs = [.non] ∧ Q (.str "None") H) ∨
  ∃ i : Int, xs = [.int i] ∧ i.natAbs.log2 < 1920 ∧ Q (.str (toString i)) H
section
variable {X : Cx}
theorem call_repr_ : CallR X (.builtin "repr") rRepr := by
  intro pins s σ H xs us Q I r h
  rcases h with ⟨z, rfl, hz, q⟩ | ⟨b, rfl, q⟩ | ⟨rfl, q⟩ | ⟨i, rfl, hz, q⟩
  · obtain ⟨u, rfl, t, rfl⟩ := vals1 r
    exact PySem.P.repr_of_str ⟨.str _, H, I.tok _, ⟨_, rfl⟩, q⟩ hz
  · obtain ⟨u, rfl, t⟩ := vals1 r
    cases (show u = Value.bool b from t)
    exact PySem.P.repr_of_bool ⟨.str _, H, I.tok _, ⟨_, rfl⟩, q⟩
  · obtain ⟨u, rfl, t⟩ := vals1 r
    cases (show u = Value.none from t)
    exact PySem.P.repr_of_none ⟨.str _, H, I.tok _, ⟨_, rfl⟩, q⟩
  · obtain ⟨u, rfl, t, rfl⟩ := vals1 r
    exact PySem.P.repr_of_int hz ⟨.str _, H, I.tok _, ⟨_, rfl⟩, q⟩
end
def reprW (s : List Nat) : List Nat := (reprText (S s)).cps.toList
theorem rep_str {K : PySem.W.Frag} {B : Hp} (z : Str) : Rep K B (.str z) (.str z.cps.toList) := by
  have h := Rep.str (K := K) (B := B) z.cps.toList
  rw [Array.toArray_toList] at h
  exact h
def sW (s : String) : List Nat := (Str.ofString s).cps.toList
section
variable {K : KB} {w w1 : Bool} {ρ : LS} {R : Dat → Prop}
theorem oc_repr_str {s : List Nat} (hl : s.length ≤ 1000000) (hc : ∀ c ∈ s, c < 16 ^ 8) (k : R (.str (reprW s))) : OpC K w1 w ρ rRepr [.str s] R := fun c σ H us o r Q q => by
  cases r with
  | cons r1 r2 =>
  cases r2
  cases r1
  refine .inl ⟨S s, rfl, ?_, q _ H _ o .refl (rep_str _) k⟩
  have h := PySem.StrLaws.reprText_len (S s) (by rw [S_list]; exact hc)
  have h2 : (S s).length ≤ 1000000 := by rw [S_len]; exact hl
  exact Nat.le_trans h (Nat.le_trans (show 10 * (S s).length + 2 ≤ 10000002 by omega) (by decide))
theorem oc_repr_bl {b : Bool} (k : R (.str (sW (if b then "True" else "False")))) : OpC K w1 w ρ rRepr [.bl b] R := fun c σ H us o r Q q => by
  cases r with
  | cons r1 r2 =>
  cases r2
  cases r1
  exact .inr (.inl ⟨b, rfl, q _ H _ o .refl (by cases b <;> exact rep_str _) k⟩)
theorem oc_repr_non (k : R (.str (sW "None"))) : OpC K w1 w ρ rRepr [.non] R := fun c σ H us o r Q q => by
  cases r with
  | cons r1 r2 =>
  cases r2
  cases r1
  exact .inr (.inr (.inl ⟨rfl, q _ H _ o .refl (rep_str _) k⟩))

/-! ### a call of an instance -/
theorem g_callO {X : Cx} {C : Addr} {S : List Dat → (Dat → Prop) → Prop} {E : XK} {tf : TE} {t : TA} (h : G K w ρ tf fun x => ∃ fs, x = .obj C fs ∧ GA K w ρ t fun ds => S (.obj C fs :: ds) R) : G K w ρ (StX.tCallO X C (spF K S) E tf t) R := fun c σ H o Q q =>
  h c σ H o _ fun v H1 d o1 l1 r1 ⟨fs, e, h1⟩ => by
    subst e
    cases r1 with
    | @obj a _ dx xs _ ha rf =>
    refine ⟨a, rfl, h1 c σ H1 o1 _ fun vs H2 ds o2 l2 r2 k => ⟨.inr ⟨dx, xs, vw_le a _ (l2.vw a _ ha)⟩, ?_⟩⟩
    exact ⟨_, .obj C fs :: ds, R, o2.trk, .cons (.obj (l2.vw a _ ha) (rf.mono l2.vw)) r2, k, fun v H' d e rv rd => q v H' d (o2.ex e) ((l1.trans l2).trans e.le) rv rd⟩
theorem fnR_of {K : PySem.W.Frag} {P : Program} {wd : World} {mg : Str → Option Value} {base : Heap} {k : Nat} {f : Addr} {fd : FuncData} {ps : List Str} {sp : Sp} (F : FnOk P wd K mg base CX0 k f fd ps sp) (b : Binds K fd ps []) : FnR P wd K mg base CX0 k f sp :=
  (F.raw b .nil).imp fun vs H Q E h => by rw [List.append_nil]; exact h

/-! ### comprehension slots -/
theorem np1 {j : Nat} {s0 : Slot} (h : ρ[j]? = some s0) (hp : ∀ v, pa s0 v = none) : ∀ i, i ∈ [j] → ∀ s, ρ[i]? = some s → ∀ v, pa s v = none := fun i hi s hs => by
  rw [List.mem_singleton] at hi
  subst hi
  rw [h] at hs
  cases hs
  exact hp
theorem np2 {j j2 : Nat} {s0 s2 : Slot} (h : ρ[j]? = some s0) (hp : ∀ v, pa s0 v = none) (h2 : ρ[j2]? = some s2) (hp2 : ∀ v, pa s2 v = none) : ∀ i, i ∈ [j, j2] → ∀ s, ρ[i]? = some s → ∀ v, pa s v = none := fun i hi s hs => by
  rcases List.mem_cons.mp hi with e | hi
  · subst e
    rw [h] at hs
    cases hs
    exact hp
  · exact np1 h2 hp2 i hi s hs
end
end BV

end

section
set_option maxHeartbeats 4000000
namespace BV
open PySem PySem.Spec L2
section
variable {K : KB} {w w1 : Bool} {ρ : LS} {ta tb te : TE} {t : TA} {R : Dat → Prop}
theorem e_int {i : Int} {P : Int → Prop} (h : P i) : ∃ j, Dat.int i = .int j ∧ P j := ⟨i, rfl, h⟩
theorem e_bl {i : Bool} {P : Bool → Prop} (h : P i) : ∃ j, Dat.bl i = .bl j ∧ P j := ⟨i, rfl, h⟩
theorem e_str {i : List Nat} {P : List Nat → Prop} (h : P i) : ∃ j, Dat.str i = .str j ∧ P j := ⟨i, rfl, h⟩
theorem e_tup {i : List Dat} {P : List Dat → Prop} (h : P i) : ∃ j, Dat.tup i = .tup j ∧ P j := ⟨i, rfl, h⟩
theorem e_lst {i : List Dat} {P : List Dat → Prop} (h : P i) : ∃ j, Dat.lst i = .lst j ∧ P j := ⟨i, rfl, h⟩
theorem e_scr {i : List Int} {P : List Int → Prop} (h : P i) : ∃ j, Dat.scr i = .scr j ∧ P j := ⟨i, rfl, h⟩
theorem e_dk {i : List (DKey × Dat)} {P : List (DKey × Dat) → Prop} (h : P i) : ∃ j, Dat.dk i = .dk j ∧ P j := ⟨i, rfl, h⟩
theorem e_obj {C : Addr} {i : List (Str × Dat)} {P : List (Str × Dat) → Prop} (h : P i) : ∃ j, Dat.obj C i = .obj C j ∧ P j := ⟨i, rfl, h⟩
theorem e_own {i : List Dat} {P : List Dat → Prop} (h : P i) : ∃ j, Slot.own i = .own j ∧ P j := ⟨i, rfl, h⟩
theorem e_i1 {a : Int} {P : Int → Prop} (h : P a) : ∃ i : Int, [Dat.int a] = [.int i] ∧ P i := ⟨a, rfl, h⟩
theorem e_i2 {a b : Int} {P : Int → Int → Prop} (h : P a b) : ∃ i j : Int, [Dat.int a, .int b] = [.int i, .int j] ∧ P i j := ⟨a, b, rfl, h⟩
theorem e_keyS {s : List Nat} {P : DKey → Prop} (h : P (.s s)) : ∃ k, KeyD (.str s) k ∧ P k := ⟨_, .s s, h⟩
theorem e_keyI {i : Int} {P : DKey → Prop} (h : P (.i i)) : ∃ k, KeyD (.int i) k ∧ P k := ⟨_, .i i, h⟩
theorem e_truL {ds : List Dat} {P : Bool → Prop} (h : P (!ds.isEmpty)) : ∃ b, TruD (.lst ds) b ∧ P b := ⟨_, .lst ds, h⟩
theorem e_truT {ds : List Dat} {P : Bool → Prop} (h : P (!ds.isEmpty)) : ∃ b, TruD (.tup ds) b ∧ P b := ⟨_, .tup ds, h⟩
theorem e_truB {b : Bool} {P : Bool → Prop} (h : P b) : ∃ c, TruD (.bl b) c ∧ P c := ⟨_, .bl b, h⟩
theorem e_truN {P : Bool → Prop} (h : P false) : ∃ c, TruD .non c ∧ P c := ⟨_, .non, h⟩
theorem e_truS {s : List Nat} {P : Bool → Prop} (hl : s.length ≤ 1000000) (h : P (!s.isEmpty)) : ∃ c, TruD (.str s) c ∧ P c := ⟨_, .str s hl, h⟩
theorem e_truI {i : Int} {P : Bool → Prop} (h : P (i != 0)) : ∃ c, TruD (.int i) c ∧ P c := ⟨_, .int i, h⟩
theorem c_len {xs : List Dat} {A : Prop} (hl : decide (xs.length ≤ 100000) = true) (h : A) : xs.length ≤ 100000 ∧ A := ⟨of_decide_eq_true hl, h⟩
theorem c_rng {j : Int} {A : Prop} (h1 : -(2 ^ 62) ≤ j) (h2 : j < 2 ^ 62) (h : A) : -(2 ^ 62) ≤ j ∧ j < 2 ^ 62 ∧ A := ⟨h1, h2, h⟩
theorem c_rng2 {i j : Int} {A : Prop} (h0 : -(2 ^ 62) ≤ i) (h3 : i < 2 ^ 62) (h1 : -(2 ^ 62) ≤ j) (h2 : j < 2 ^ 62) (h : A) : (-(2 ^ 62) ≤ i ∧ i < 2 ^ 62 ∧ -(2 ^ 62) ≤ j ∧ j < 2 ^ 62) ∧ A := ⟨⟨h0, h3, h1, h2⟩, h⟩
theorem c_lt6 {n : Nat} {A : Prop} (h1 : n < 1000000) (h : A) : n < 1000000 ∧ A := ⟨h1, h⟩
theorem c_le6 {n : Nat} {A : Prop} (h1 : n ≤ 1000000) (h : A) : n ≤ 1000000 ∧ A := ⟨h1, h⟩
theorem oc_isi_tup {ds : List Dat} {n : String} {b : Bool} (hk : kitB "tuple" n = some b) (k : R (.bl b)) : OpC K w1 w ρ (rIsi K) [.tup ds, .oth (.ty n)] R := oc_isi rfl hk k
theorem oc_isi_lst {ds : List Dat} {n : String} {b : Bool} (hk : kitB "list" n = some b) (k : R (.bl b)) : OpC K w1 w ρ (rIsi K) [.lst ds, .oth (.ty n)] R := oc_isi rfl hk k
theorem oc_isi_str {s : List Nat} {n : String} {b : Bool} (hk : kitB "str" n = some b) (k : R (.bl b)) : OpC K w1 w ρ (rIsi K) [.str s, .oth (.ty n)] R := oc_isi rfl hk k
theorem oc_isi_int {i : Int} {n : String} {b : Bool} (hk : kitB "int" n = some b) (k : R (.bl b)) : OpC K w1 w ρ (rIsi K) [.int i, .oth (.ty n)] R := oc_isi rfl hk k
theorem oc_isi_bl {i : Bool} {n : String} {b : Bool} (hk : kitB "bool" n = some b) (k : R (.bl b)) : OpC K w1 w ρ (rIsi K) [.bl i, .oth (.ty n)] R := oc_isi rfl hk k
theorem oc_isi_non {n : String} {b : Bool} (hk : kitB "NoneType" n = some b) (k : R (.bl b)) : OpC K w1 w ρ (rIsi K) [.non, .oth (.ty n)] R := oc_isi rfl hk k
theorem c_nt {A B : Prop} (h : B) : ((!true) = true → A) ∧ ((!true) = false → B) := ⟨fun z => (nomatch z), fun _ => h⟩
theorem c_nf {A B : Prop} (h : A) : ((!false) = true → A) ∧ ((!false) = false → B) := ⟨fun _ => h, fun z => nomatch z⟩
theorem c_tt {A B : Prop} (h : A) : (true = true → A) ∧ (true = false → B) := ⟨fun _ => h, fun z => nomatch z⟩
theorem c_ff {A B : Prop} (h : B) : (false = true → A) ∧ (false = false → B) := ⟨fun z => (nomatch z), fun _ => h⟩
theorem c_dec {p : Prop} [Decidable p] {A B : Prop} (h1 : p → A) (h2 : ¬ p → B) : (decide p = true → A) ∧ (decide p = false → B) := ⟨fun h => h1 (of_decide_eq_true h), fun h => h2 (of_decide_eq_false h)⟩
theorem c_nec {p : Prop} [Decidable p] {A B : Prop} (h1 : ¬ p → A) (h2 : p → B) : ((!decide p) = true → A) ∧ ((!decide p) = false → B) := ⟨fun h => h1 (by simpa using h), fun h => h2 (by simpa using h)⟩
theorem c_and {p q : Bool} {A B : Prop} (h : (p = true → q = true → A) ∧ ((p && q) = false → B)) : ((p && q) = true → A) ∧ ((p && q) = false → B) := ⟨fun z => by rw [Bool.and_eq_true] at z; exact h.1 z.1 z.2, h.2⟩
theorem g_ixL (h : G K w ρ ta fun x => G K w ρ tb fun y => Op2 K w w ρ (rIxL K) x y R) : G K w ρ (tOp (rIxL K) ta tb) R := g_opS h
theorem g_ixT (h : G K w ρ ta fun x => G K w ρ tb fun y => Op2 K w w ρ (rIxT K) x y R) : G K w ρ (tOp (rIxT K) ta tb) R := g_opS h
theorem g_cat (h : G K w ρ ta fun x => G K w ρ tb fun y => Op2 K w w ρ rCat x y R) : G K w ρ (tOp rCat ta tb) R := g_opS h
theorem g_rep (h : G K w ρ ta fun x => G K w ρ tb fun y => Op2 K w w ρ rRep x y R) : G K w ρ (tOp rRep ta tb) R := g_opS h
theorem g_catO {i : Nat} {ds : List Dat} (he : ρ[i]? = some (.own ds)) (h : G K false ρ tb fun y => ∃ es, y = .lst es ∧ ds.length + es.length ≤ 1000000 ∧ R (.lst (ds ++ es))) : G K w ρ (tOp rCat (tVar i) tb) R :=
  g_new (gn_catO he (h.mono fun d ⟨es, e, hl, k⟩ => ⟨es, e, hl, _, rfl, k⟩))
theorem g_tuple (h : GA K w ρ t fun xs => ∃ ds, (xs = [.lst ds] ∨ xs = [.tup ds]) ∧ R (.tup ds)) : G K w ρ (tCB (rTupOf K) t) R := g_cbS fun c σ H o Q q => h c σ H o Q fun vs H2 ds o2 l r ⟨ds', e, k⟩ => q vs H2 ds o2 l r (by
  rcases e with rfl | rfl
  · exact oc_tuple k
  · exact oc_tupleT k)
theorem e_tl {ds : List Dat} {P : List Dat → Prop} (h : P ds) : ∃ es, ([Dat.lst ds] = [.lst es] ∨ [Dat.lst ds] = [.tup es]) ∧ P es := ⟨ds, .inl rfl, h⟩
theorem e_tt {ds : List Dat} {P : List Dat → Prop} (h : P ds) : ∃ es, ([Dat.tup ds] = [.lst es] ∨ [Dat.tup ds] = [.tup es]) ∧ P es := ⟨ds, .inr rfl, h⟩
theorem g_list (h : GA K false ρ t fun xs => ∃ ds, (xs = [.lst ds] ∨ xs = [.tup ds]) ∧ R (.lst ds)) : G K w ρ (tCB (rListOf K) t) R :=
  g_new (gn_list fun c σ H o Q q => h c σ H o Q fun vs H2 ds o2 l r ⟨ds', e, k⟩ => q vs H2 ds o2 l r ⟨ds', e, _, rfl, k⟩)
theorem g_lc {wi : TI} {g : TG} {tt : TT} {te : TE} {vs : List Nat} (hn : ∀ i, i ∈ vs → ∀ s, ρ[i]? = some s → ∀ v, pa s v = none) (h : GI K false ρ wi fun ds => ds.length < 1000000 ∧ ∃ W : Nat → List Dat → Prop, W 0 [] ∧
    (∀ i x acc, ds[i]? = some x → W i acc → acc.length ≤ i → GC K vs (wipeS ρ vs) g x fun ρ2 => GT K ρ2 tt fun b => (b = true → G K false ρ2 te fun y => W (i + 1) (acc ++ [y])) ∧ (b = false → W (i + 1) acc)) ∧ ∀ acc, acc.length ≤ ds.length → W ds.length acc → R (.lst acc)) :
    G K w ρ (tLc wi g tt te vs) R := g_new (gn_lc hn fun c σ H o RK q => h c σ H o RK fun J H2 n Gj Y ds o2 l wk hl hG hY ⟨hz, W, h0, hs, hd⟩ => q J H2 n Gj Y ds o2 l wk hl hG hY ⟨hz, W, h0, hs, fun acc hl2 hw => ⟨acc, rfl, hd acc hl2 hw⟩⟩)
theorem gt_yes {RT : Bool → Prop} (k : RT true) : GT K ρ tYes RT := fun c σ H o Q q => q true H o .refl k
/-- a comprehension without a test whose items are f of what is walked -/
theorem g_lcMap {wi : TI} {g : TG} {te : TE} {vs : List Nat} (hn : ∀ i, i ∈ vs → ∀ s, ρ[i]? = some s → ∀ v, pa s v = none) (h : GI K false ρ wi fun ds => ds.length < 1000000 ∧ ∃ f : Dat → Dat,
    (∀ (i : Nat) (x : Dat), ds[i]? = some x → GC K vs (wipeS ρ vs) g x fun ρ2 => G K false ρ2 te fun y => y = f x) ∧ R (.lst (ds.map f))) : G K w ρ (tLc wi g tYes te vs) R :=
  g_lc hn fun c σ H o RK q => h c σ H o RK fun J H2 n Gj Y ds o2 l wk hl hG hY ⟨hz, f, hf, k⟩ => q J H2 n Gj Y ds o2 l wk hl hG hY ⟨hz, fun i acc => acc = (ds.take i).map f, rfl, fun i x acc hx hw _ => by
    subst hw
    intro c' σ' H' v o' r' Q' q'
    refine hf i x hx c' σ' H' v o' r' Q' fun ρ2 σ2 o2 e2 f2 k2 => q' ρ2 σ2 o2 e2 f2 (gt_yes ⟨fun _ => k2.mono fun y ey => ?_, fun z => nomatch z⟩)
    subst ey
    have hi : i < ds.length := (List.getElem?_eq_some_iff.mp hx).1
    rw [List.take_add_one, hx]
    simp, fun acc _ hw => by
    subst hw
    rw [List.take_length]
    exact k⟩
theorem run_retO {i : Nat} {ds : List Dat} {N : LS → Prop} {RR : Ret → LS → Prop} {B C : LS → Prop} (h : ρ[i]? = some (.own ds)) (k : RR (.d (.lst ds)) (ρ.set i (.d (.lst ds)))) : Run K ρ (tRet (tVar i)) N RR B C :=
  run_frz h (.inl ⟨ds, rfl, rfl⟩) (run_ret (g_var (by rw [List.getElem?_set_self (List.getElem?_eq_some_iff.mp h).1]) k))
theorem run_retOD {i : Nat} {ds : List (DKey × Dat)} {N : LS → Prop} {RR : Ret → LS → Prop} {B C : LS → Prop} (h : ρ[i]? = some (.od ds)) (k : RR (.d (.dk ds)) (ρ.set i (.d (.dk ds)))) : Run K ρ (tRet (tVar i)) N RR B C :=
  run_frz h (.inr (.inl ⟨ds, rfl, rfl⟩)) (run_ret (g_var (by rw [List.getElem?_set_self (List.getElem?_eq_some_iff.mp h).1]) k))
theorem rng0_get {n i : Nat} {d : Dat} (h : (rngI 0 n)[i]? = some d) : i < n ∧ d = .int (i : Int) := by
  obtain ⟨h1, h2⟩ := rngI_get' h
  rw [Int.zero_add] at h2
  exact ⟨h1, h2⟩
theorem at_nat {α : Type} {xs : List α} {i : Nat} {x : α} (h : xs[i]? = some x) : atI xs (i : Int) = some x := by
  have hi := (List.getElem?_eq_some_iff.mp h).1
  unfold atI ixN
  rw [if_pos (by omega), if_pos (by omega)]
  show xs[(i : Int).toNat]? = some x
  rw [Int.toNat_natCast, h]
theorem at_map {α β : Type} {f : α → β} {xs : List α} {i : Nat} {x : α} (h : xs[i]? = some x) : atI (xs.map f) (i : Int) = some (f x) := at_nat (by rw [List.getElem?_map, h]; rfl)
theorem map_get {α : Type} {f : α → Dat} {xs : List α} {i : Nat} {d : Dat} (h : (xs.map f)[i]? = some d) : ∃ x, xs[i]? = some x ∧ d = f x := by
  rw [List.getElem?_map] at h
  cases e : xs[i]? with
  | none => rw [e] at h; cases h
  | some x => rw [e] at h; cases h; exact ⟨x, rfl, rfl⟩
theorem take_snoc {α : Type} {xs : List α} {i : Nat} {x : α} (h : xs[i]? = some x) : xs.take (i + 1) = xs.take i ++ [x] := by
  rw [List.take_add_one, h]
  rfl
theorem get_lt {α : Type} {xs : List α} {i : Nat} {x : α} (h : xs[i]? = some x) : i < xs.length := (List.getElem?_eq_some_iff.mp h).1
theorem c_i0 {x y : Bool} {A B : Prop} (h : (x = true → A) ∧ (x = false → B)) : ((if false = true then y else x) = true → A) ∧ ((if false = true then y else x) = false → B) := h
theorem c_i1 {x y : Bool} {A B : Prop} (h : (y = true → A) ∧ (y = false → B)) : ((if true = true then y else x) = true → A) ∧ ((if true = true then y else x) = false → B) := h
theorem c_non {A B : Prop} (h : A) : (isNon .non = true → A) ∧ (isNon .non = false → B) := ⟨fun _ => h, fun z => nomatch z⟩
theorem c_str {s : List Nat} {A B : Prop} (h : B) : (isNon (.str s) = true → A) ∧ (isNon (.str s) = false → B) := ⟨fun z => (nomatch z), fun _ => h⟩
theorem c_tup {s : List Dat} {A B : Prop} (h : B) : (isNon (.tup s) = true → A) ∧ (isNon (.tup s) = false → B) := ⟨fun z => (nomatch z), fun _ => h⟩
theorem cut_from {α : Type} (s : List α) {a : Int} (h : 0 ≤ a) : cut s (some a) none = s.drop a.toNat := by
  obtain ⟨n, rfl⟩ := Int.eq_ofNat_of_zero_le h
  unfold cut
  rw [HT.sIx_nat, HT.sIx_none, Int.toNat_natCast, List.take_of_length_le (by rw [List.length_drop]; omega)]
  by_cases hn : n ≤ s.length
  · rw [Nat.min_eq_left hn]
  · rw [Nat.min_eq_right (by omega), List.drop_of_length_le (Nat.le_refl _), List.drop_of_length_le (by omega)]
theorem cut_to {α : Type} (s : List α) {a : Int} (h : 0 ≤ a) : cut s none (some a) = s.take a.toNat := by
  obtain ⟨n, rfl⟩ := Int.eq_ofNat_of_zero_le h
  unfold cut
  rw [HT.sIx_nat, HT.sIx_none, Int.toNat_natCast, List.drop_zero, Nat.sub_zero]
  by_cases hn : n ≤ s.length
  · rw [Nat.min_eq_left hn]
  · rw [Nat.min_eq_right (by omega), List.take_of_length_le (Nat.le_refl _), List.take_of_length_le (by omega)]
theorem cut_mid {α : Type} (s : List α) {a b : Int} (h : 0 ≤ a) (hb : 0 ≤ b) : cut s (some a) (some b) = (s.drop a.toNat).take (b.toNat - a.toNat) := by
  obtain ⟨n, rfl⟩ := Int.eq_ofNat_of_zero_le h
  obtain ⟨m, rfl⟩ := Int.eq_ofNat_of_zero_le hb
  unfold cut
  rw [HT.sIx_nat, HT.sIx_nat, Int.toNat_natCast, Int.toNat_natCast]
  by_cases hn : n ≤ s.length
  · rw [Nat.min_eq_left hn]
    by_cases hm : m ≤ s.length
    · rw [Nat.min_eq_left hm]
    · rw [Nat.min_eq_right (show s.length ≤ m by omega), List.take_of_length_le (by rw [List.length_drop]; omega), List.take_of_length_le (by rw [List.length_drop]; omega)]
  · rw [Nat.min_eq_right (show s.length ≤ n by omega), List.drop_of_length_le (Nat.le_refl _), List.drop_of_length_le (i := n) (by omega)]
    simp
theorem c_nnon {A B : Prop} (h : B) : ((!isNon .non) = true → A) ∧ ((!isNon .non) = false → B) := ⟨fun z => (nomatch z), fun _ => h⟩
theorem c_nstr {s : List Nat} {A B : Prop} (h : A) : ((!isNon (.str s)) = true → A) ∧ ((!isNon (.str s)) = false → B) := ⟨fun _ => h, fun z => nomatch z⟩
theorem c_ntup {s : List Dat} {A B : Prop} (h : A) : ((!isNon (.tup s)) = true → A) ∧ ((!isNon (.tup s)) = false → B) := ⟨fun _ => h, fun z => nomatch z⟩
theorem e_ret {x : Dat} {P : Dat → Prop} (h : P x) : ∃ d, Ret.d x = Ret.d d ∧ P d := ⟨x, rfl, h⟩
theorem cut_le {α : Type} (s : List α) (a b : Option Int) : (cut s a b).length ≤ s.length := by
  unfold cut
  rw [List.length_take, List.length_drop]
  omega
theorem c_dt {p : Prop} [Decidable p] {A B : Prop} (hc : p) (h : A) : (decide p = true → A) ∧ (decide p = false → B) := ⟨fun _ => h, fun z => absurd hc (of_decide_eq_false z)⟩
theorem c_df {p : Prop} [Decidable p] {A B : Prop} (hc : ¬ p) (h : B) : (decide p = true → A) ∧ (decide p = false → B) := ⟨fun z => absurd (of_decide_eq_true z) hc, fun _ => h⟩
theorem c_ndt {p : Prop} [Decidable p] {A B : Prop} (hc : p) (h : B) : ((!decide p) = true → A) ∧ ((!decide p) = false → B) := ⟨fun z => (by rw [decide_eq_true hc] at z; cases z), fun _ => h⟩
theorem c_ndf {p : Prop} [Decidable p] {A B : Prop} (hc : ¬ p) (h : A) : ((!decide p) = true → A) ∧ ((!decide p) = false → B) := ⟨fun _ => h, fun z => (by rw [decide_eq_false hc] at z; cases z)⟩
theorem at_zero {α : Type} {x : α} {xs : List α} : atI (x :: xs) 0 = some x := at_nat (i := 0) rfl
end
end BV

end

section
set_option maxHeartbeats 1000000
/-! The rules again with the fragment as a plain argument (needed inside comprehensions). -/
namespace BV
open PySem L2
section
variable {X : Cx}
theorem kIxT (K : PySem.W.Frag) (h : X.K = K) : IxR X (rIxT K) := h ▸ ix_tup
theorem kIxL (K : PySem.W.Frag) (h : X.K = K) : IxR X (rIxL K) := h ▸ ix_list
theorem kLen (K : PySem.W.Frag) (h : X.K = K) : CallR X (.builtin "len") (rLen K) := h ▸ call_len_
theorem kTupOf (K : PySem.W.Frag) (h : X.K = K) : CallR X (.type "tuple") (rTupOf K) := h ▸ call_tupOf
theorem kListOf (K : PySem.W.Frag) (h : X.K = K) : CallR X (.type "list") (rListOf K) := h ▸ call_listOf
theorem kJoin (K : PySem.W.Frag) (h : X.K = K) : MtR X "str.join" (rJoin K) := h ▸ mt_join_
theorem kIsi (K : PySem.W.Frag) (h : X.K = K) : CallR X (.builtin "isinstance") (rIsi K) := h ▸ call_isi
theorem kLtD (K : PySem.W.Frag) (h : X.K = K) (hu : X.A.units + 64 < cLine) : OpR X (compareOp .Lt) (rLtD K) := h ▸ op_ltD hu
theorem kEqD (K : PySem.W.Frag) (h : X.K = K) (hu : X.A.units + 64 < cLine) : OpR X (compareOp .Eq) (rEqD K) := h ▸ op_eqD hu
theorem kNeD (K : PySem.W.Frag) (h : X.K = K) (hu : X.A.units + 64 < cLine) : OpR X (compareOp .NotEq) (rNeD K) := h ▸ op_neD hu
theorem kInD (K : PySem.W.Frag) (h : X.K = K) (hu : X.A.units + 65 < cLine) : OpR X (compareOp .In) (rInD K) := h ▸ op_inD hu
theorem kNotInD (K : PySem.W.Frag) (h : X.K = K) (hu : X.A.units + 65 < cLine) : OpR X (compareOp .NotIn) (rNotInD K) := h ▸ op_notInD hu
variable {K : KB} {w : Bool} {ρ : LS} {R : Dat → Prop}
/-- a comprehension over what stands for xs, whose items are f of them -/
theorem g_lcF {α : Type} (κ f : α → Dat) {wi : TI} {g : TG} {te : TE} {vs : List Nat} (hn : ∀ i, i ∈ vs → ∀ s, ρ[i]? = some s → ∀ v, pa s v = none) (h : GI K false ρ wi fun ds => ∃ xs : List α, ds = xs.map κ ∧ xs.length < 1000000 ∧ (∀ x ∈ xs, GC K vs (wipeS ρ vs) g (κ x) fun ρ2 => G K false ρ2 te fun y => y = f x) ∧ R (.lst (xs.map f))) : G K w ρ (tLc wi g tYes te vs) R :=
  g_lc hn fun c σ H o RK q => h c σ H o RK fun J H2 n Gj Y ds o2 l wk hl hG hY ⟨xs, e, hz, hf, k⟩ => q J H2 n Gj Y ds o2 l wk hl hG hY ⟨by rw [e, List.length_map]; exact hz, fun i acc => acc = (xs.take i).map f, rfl, fun i x acc hx hw _ => by
    subst hw
    subst e
    obtain ⟨y, hy, rfl⟩ := map_get hx
    intro c' σ' H' v o' r' Q' q'
    refine hf y (List.mem_of_getElem? hy) c' σ' H' v o' r' Q' fun ρ2 σ2 o2 e2 f2 k2 => q' ρ2 σ2 o2 e2 f2 (gt_yes ⟨fun _ => k2.mono fun z ez => ?_, fun z => nomatch z⟩)
    subst ez
    rw [take_snoc hy, List.map_append]
    rfl, fun acc _ hw => by
    subst hw
    rw [e, List.length_map, List.take_length]
    exact k⟩
/-- the same with truths -/
theorem g_lcB {α : Type} (κ : α → Dat) (f : α → Bool) {wi : TI} {g : TG} {te : TE} {vs : List Nat} (hn : ∀ i, i ∈ vs → ∀ s, ρ[i]? = some s → ∀ v, pa s v = none) (h : GI K false ρ wi fun ds => ∃ xs : List α, ds = xs.map κ ∧ xs.length < 1000000 ∧ (∀ x ∈ xs, GC K vs (wipeS ρ vs) g (κ x) fun ρ2 => G K false ρ2 te fun y => y = .bl (f x)) ∧ R (.lst ((xs.map f).map .bl))) : G K w ρ (tLc wi g tYes te vs) R :=
  g_lcF κ (fun x => .bl (f x)) hn fun c σ H o RK q => h c σ H o RK fun J H2 n Gj Y ds o2 l wk hl hG hY ⟨xs, e, hz, hf, k⟩ => q J H2 n Gj Y ds o2 l wk hl hG hY ⟨xs, e, hz, hf, by rw [List.map_map] at k; exact k⟩
theorem upd2_ex {H : Hp} {p : Addr} {a b : HO} (hp : H p = none) : Ex H (upd (upd H p a) p b) := fun x o h => by
  by_cases e : x = p
  · subst e; rw [hp] at h; cases h
  · rw [upd_ne e, upd_ne e]; exact h
/-- a dict with one pair, its key a text -/
theorem gn_disp1 {x : Str} {v : V} {d : Dat} {RS : Slot → Prop} (hv : ∀ B, Rep K B v d) (h : RS (.od [(.s x.cps.toList, d)])) : GN K ρ (tDisp [(tC (.str x), tC v)]) RS := fun c σ H o Q q p hp =>
  ⟨upd_same, [((DKey.s x.cps.toList).toK, v)], by
    show [(V.str x, v)] = [(V.str (S x.cps.toList), v)]
    have : S x.cps.toList = x := by unfold S; rw [Array.toArray_toList]
    rw [this], Nat.le_of_ble_eq_true rfl, q p _ (.od [(.s x.cps.toList, d)]) (o.ex (upd2_ex hp)) (upd2_ex hp).le hp ⟨p, _, rfl, upd_same, .cons (k := .s x.cps.toList) (hv _) .nil⟩ rfl h⟩
theorem gn_dispV {i : Nat} {t : List Nat} {v : V} {d : Dat} {RS : Slot → Prop} (hi : ρ[i]? = some (.d (.str t))) (hv : ∀ B, Rep K B v d) (h : RS (.od [(.s t, d)])) : GN K ρ (tDisp [(tVar i, tC v)]) RS := fun c σ H o Q q p hp => by
  obtain ⟨u, e, u', rfl, r⟩ := o.get hi
  cases r
  exact ⟨_, e, upd_same, [((DKey.s t).toK, v)], rfl, Nat.le_of_ble_eq_true rfl, q p _ (.od [(.s t, d)]) (o.ex (upd2_ex hp)) (upd2_ex hp).le hp ⟨p, _, rfl, upd_same, .cons (k := .s t) (hv _) .nil⟩ rfl h⟩
/-- d[k] of a private dict -/
theorem g_dixO {ty : TE} {i : Nat} {kvs : List (DKey × Dat)} (he : ρ[i]? = some (.od kvs)) (h : G K true ρ ty fun y => ∃ k d, KeyD y k ∧ valD kvs k = some d ∧ R d) : G K w ρ (tDGet (tVar i) ty) R := fun c σ H o Q q => by
  obtain ⟨v, e, a, xs, rfl, ha, rl⟩ := o.get he
  refine ⟨_, e, h c σ H o _ fun v H2 dy o2 l r ⟨k, d, hk, hv, kr⟩ => ?_⟩
  obtain ⟨v', e', a', xs', q1, ha', rl'⟩ := o2.get he
  rw [e] at e'
  cases e'
  cases q1
  rcases rl'.val k with ⟨e1, e2⟩ | ⟨z, d', e1, e2, r2⟩
  · rw [hv] at e2; cases e2
  · rw [hv] at e2
    cases e2
    exact ⟨a, z, rfl, .inl ⟨xs', k.toK, .inl ha', hk.rep r, e1.symm⟩, q _ H2 _ o2 l (r2.mono vw_up2) kr⟩
theorem units65 {k : Nat} {A : Around} (r : Room k A) : A.units + 65 < cLine := by have := r.un; omega
theorem toPs_map {α : Type} (f : α → Dat) : ∀ xs : List α, toPs (xs.map f) = xs.map fun x => toP (f x)
  | [] => rfl
  | x :: xs => by
    show toP (f x) :: toPs (xs.map f) = _
    rw [toPs_map f xs]
    rfl
/-- texts of plain signs -/
def Lw (w : List Nat) : Prop := ∀ c ∈ w, c < 0x110000
theorem strOk_S {w : List Nat} (h : Lw w) : PySem.PyData.strOk (S w) = true := by
  unfold PySem.PyData.strOk
  rw [← Array.all_toList, S_list, List.all_eq_true]
  intro c hc
  exact decide_eq_true (h c hc)
theorem S_beq (a b : List Nat) : (S a == S b) = decide (a = b) := by
  by_cases h : a = b
  · subst h; simp
  · rw [decide_eq_false h, beq_eq_false_iff_ne]
    intro e
    have := congrArg (fun s : Str => s.cps.toList) e
    simp only [S_list] at this
    exact h this
theorem e_fld {C : Addr} {fs : List (Str × Dat)} {f : Str} {d : Dat} (hl : fs.lookup f = some d) (k : R d) : ∃ fs' d', Dat.obj C fs = .obj C fs' ∧ fs'.lookup f = some d' ∧ R d' := ⟨fs, d, rfl, hl, k⟩
/-- a source: what its cells hold is some number -/
theorem g_srcIx {i : Nat} {a : Addr} {k : Int} (he : ρ[i]? = some (.src a)) (hk : k = 0 ∨ k = 1 ∨ k = 2) (h : ∀ z : Int, R (.int z)) : G K w ρ (tOp (rIxL K) (tVar i) (tC (.int k))) R := fun c σ H o Q q => by
  obtain ⟨v, e, ev, n, s, m, ha⟩ := o.get he
  subst ev
  refine ⟨_, e, ?_⟩
  rcases hk with rfl | rfl | rfl
  · exact ⟨a, _, 0, .int n, rfl, rfl, .inl (.inl ha), rfl, q _ H _ o .refl (.int n) (h n)⟩
  · exact ⟨a, _, 1, .int s, rfl, rfl, .inl (.inl ha), rfl, q _ H _ o .refl (.int s) (h s)⟩
  · exact ⟨a, _, 2, .int m, rfl, rfl, .inl (.inl ha), rfl, q _ H _ o .refl (.int m) (h m)⟩
theorem run_srcSet {i : Nat} {a : Addr} {k : Int} {te : TE} {N B C : LS → Prop} {RR : Ret → LS → Prop} (he : ρ[i]? = some (.src a)) (hk : k = 0 ∨ k = 1 ∨ k = 2) (h : G K false ρ te fun d => ∃ z, d = .int z ∧ N (ρ.set i (.src a))) : Run K ρ (tAsg te (gSub (tVar i) (tC (.int k)) rSetL)) N RR B C := fun c D is σ H o =>
  h c σ H o _ fun v H1 d o1 l1 r1 ⟨z, ez, kn⟩ => by
    subst ez
    cases r1
    obtain ⟨v', e', ev, n, s, m, ha⟩ := o1.get he
    subst ev
    refine ⟨_, e', ?_⟩
    rcases hk with rfl | rfl | rfl
    · exact ⟨a, _, 0, 0, rfl, rfl, ha, rfl, is.nx _ _ _ (o1.write (s' := .src a) he e' rfl rfl ⟨rfl, z, s, m, upd_same⟩) kn⟩
    · exact ⟨a, _, 1, 1, rfl, rfl, ha, rfl, is.nx _ _ _ (o1.write (s' := .src a) he e' rfl rfl ⟨rfl, n, z, m, upd_same⟩) kn⟩
    · exact ⟨a, _, 2, 2, rfl, rfl, ha, rfl, is.nx _ _ _ (o1.write (s' := .src a) he e' rfl rfl ⟨rfl, n, s, z, upd_same⟩) kn⟩
theorem fmod_rng {z : Int} {m : Nat} (h : 0 < m) : ∃ d : Nat, z.fmod (m : Int) = (d : Int) ∧ d < m := by
  have h1 := Int.fmod_nonneg_of_pos z (b := (m : Int)) (by omega)
  have h2 := Int.fmod_lt_of_pos z (b := (m : Int)) (by omega)
  exact ⟨(z.fmod (m : Int)).toNat, by omega, by omega⟩
theorem fm64 {z N : Int} (h0 : 0 < N) (h : N ≤ 2 ^ 64) : -(2 ^ 64) < z.fmod N ∧ z.fmod N < 2 ^ 64 := by
  have h1 := Int.fmod_nonneg_of_pos z h0
  have h2 := Int.fmod_lt_of_pos z h0
  omega
theorem c_at0 {s : Slot} {A : Prop} (h : ρ[0]? = some s) (k : A) : ρ[0]? = some s ∧ A := ⟨h, k⟩
theorem bits_le {i : Int} {a : Nat} (h : i.natAbs < 2 ^ a) : Builtin.Int.intBits i ≤ a := by
  unfold Builtin.Int.intBits
  split
  · omega
  · rename_i hz
    have h0 : i.natAbs ≠ 0 := by
      intro e
      apply hz
      rw [Int.natAbs_eq_zero.mp e]
      rfl
    have := (Nat.log2_lt h0).mpr h
    omega
theorem lt_bits (i : Int) : i.natAbs < 2 ^ Builtin.Int.intBits i := by
  unfold Builtin.Int.intBits
  split
  · rename_i hz
    rw [beq_iff_eq] at hz
    subst hz
    decide
  · exact Nat.lt_log2_self
theorem bits_abs_shr {i : Int} {k b : Nat} (h : Builtin.Int.intBits i ≤ b) : Builtin.Int.intBits ((if i < 0 then -i else i) / 2 ^ k) ≤ b := by
  refine bits_le ?_
  have h1 := lt_bits i
  have h2 : 2 ^ Builtin.Int.intBits i ≤ 2 ^ b := Nat.pow_le_pow_right (by decide) h
  have e : (if i < 0 then -i else i) = (i.natAbs : Int) := by split <;> omega
  rw [e]
  have e2 : ((i.natAbs : Int) / 2 ^ k).natAbs = i.natAbs / 2 ^ k := by
    have : ((2 : Int) ^ k) = ((2 ^ k : Nat) : Int) := by rw [Int.natCast_pow]; rfl
    rw [this, ← Int.natCast_ediv, Int.natAbs_natCast]
  rw [e2]
  have := Nat.div_le_self i.natAbs (2 ^ k)
  omega
theorem g_slScrV {i : Nat} {s : List Int} {tl th : TO} (he : ρ[i]? = some (.d (.scr s))) (h : GO K ρ tl fun lo => GO K ρ th fun hi => R (.lst (cut (s.map Dat.int) lo hi))) : G K w ρ (tSl (rSlL K) (tVar i) tl th) R := g_slScr (g_var he ⟨s, rfl, h⟩)
theorem run_retSrc {t : TA} {N B C : LS → Prop} (h : GA K false ρ t fun xs => ∃ n s c : Int, xs = [.int n, .int s, .int c]) : Run K ρ (tRet (tLst t)) N (fun r _ => ∃ n s c : Int, r = Ret.n (.own [.int n, .int s, .int c])) B C :=
  run_retNew (gn_lst fun c σ H o Q q => h c σ H o Q fun vs H2 ds o2 l r ⟨n, s, m, e⟩ => q vs H2 ds o2 l r ⟨by rw [e]; exact Nat.le_of_ble_eq_true rfl, n, s, m, by rw [e]⟩)
/-- a comprehension that picks -/
theorem g_lcSel {α : Type} (κ : α → Dat) (p : α → Bool) {wi : TI} {g : TG} {tt : TT} {te : TE} {vs : List Nat} (hn : ∀ i, i ∈ vs → ∀ s, ρ[i]? = some s → ∀ v, pa s v = none) (h : GI K false ρ wi fun ds => ∃ xs : List α, ds = xs.map κ ∧ xs.length < 1000000 ∧ (∀ x ∈ xs, GC K vs (wipeS ρ vs) g (κ x) fun ρ2 => GT K ρ2 tt fun b => b = p x ∧ (b = true → G K false ρ2 te fun y => y = κ x)) ∧ R (.lst ((xs.filter p).map κ))) : G K w ρ (tLc wi g tt te vs) R :=
  g_lc hn fun c σ H o RK q => h c σ H o RK fun J H2 n Gj Y ds o2 l wk hl hG hY ⟨xs, e, hz, hf, k⟩ => q J H2 n Gj Y ds o2 l wk hl hG hY ⟨by rw [e, List.length_map]; exact hz, fun i acc => acc = ((xs.take i).filter p).map κ, rfl, fun i x acc hx hw _ => by
    subst hw
    subst e
    obtain ⟨y, hy, rfl⟩ := map_get hx
    have hsn : ((xs.take (i + 1)).filter p) = (xs.take i).filter p ++ (if p y = true then [y] else []) := by
      rw [take_snoc hy, List.filter_append]
      cases e : p y <;> simp [List.filter_cons, e]
    intro c' σ' H' v o' r' Q' q'
    refine hf y (List.mem_of_getElem? hy) c' σ' H' v o' r' Q' fun ρ2 σ2 o2 e2 f2 k2 => q' ρ2 σ2 o2 e2 f2 fun c3 σ3 H3 o3 Q3 q3 => k2 c3 σ3 H3 o3 Q3 fun b H4 o4 l4 ⟨hb, kb⟩ => q3 b H4 o4 l4 ⟨fun hbt => (kb hbt).mono fun z ez => ?_, fun hbf => ?_⟩
    · subst ez
      show _ = ((xs.take (i + 1)).filter p).map κ
      rw [hsn, if_pos (hb ▸ hbt), List.map_append]
      rfl
    · show _ = ((xs.take (i + 1)).filter p).map κ
      rw [hsn, if_neg (by rw [← hb, hbf]; decide), List.append_nil], fun acc _ hw => by
    subst hw
    rw [e, List.length_map, List.take_length]
    exact k⟩
/-- t[lo:hi], the whole of it too -/
theorem kSlA (K : PySem.W.Frag) (h : X.K = K) : L2.SlR X (rSlA K) := h ▸ sl_tupA
theorem g_slA {te : TE} {tl th : TO} (h : G K w ρ te fun x => ∃ s, x = .tup s ∧ GO K ρ tl fun lo => GO K ρ th fun hi => R (.tup (cut s lo hi))) : G K w ρ (tSl (rSlA K) te tl th) R := fun c σ H o Q q =>
  h c σ H o _ fun v H2 d o2 l r ⟨s, e, k⟩ => by
    subst e
    cases r with
    | @tup a xs _ ha rl =>
    refine k c σ H2 o2 _ fun lo H3 o3 l3 k3 => k3 c σ H3 o3 _ fun hi H4 o4 l4 k4 => ?_
    have e4 := (l3.trans l4).vw (w := w)
    refine ⟨a, xs, rfl, ex_t vw_le (ex_t e4 ha), fun hw => q _ _ _ o4 ((l.trans l3).trans l4) (.tup (ex_t e4 ha) ?_) k4, fun _ p hp => q _ _ _ (o4.ex (Ex.new hp)) (((l.trans l3).trans l4).trans (Ex.new hp).le) (.tup (.inl (.inl (o4.vw_new hp))) ?_) k4⟩
    · rw [rl.length] at hw
      have e5 : cut s lo hi = s := by
        unfold cut
        rw [hw.1, hw.2, List.drop_zero, Nat.sub_zero, List.take_length]
      rw [e5]
      exact rl.mono e4
    · exact (cutV_rep (rl.mono e4) lo hi).mono (Le.vw (Ex.new hp).le)
/-- a call of an instance, its reading without the place -/
def tCO (C : Addr) (sp : Sp) (E : XK) (tf : TE) (t : TA) : TE := fun σ H Q => tf σ H fun y H1 => ∃ a, y = V.ref a ∧ t σ H1 fun vs H2 => ((∃ dx vs, SlX.Slt H2 a C dx vs) ∨ ∃ dx fs, H2 a = some (.ins C dx fs)) ∧ sp (V.ref a :: vs) H2 Q E
theorem pe_cO {CX : CXT} {k : Nat} {C g : Addr} {sp : Sp} {E : XK} {e fe : Expr} {es : List Expr} {tf : TE} {t : TA} {pos : Pos} (hf : PE X fe tf) (c : StX.CallO X.K C g) (F : FnR X.prog X.w X.K X.mg X.base CX k g sp) (hr : Room k X.A) (hx : Passes CX X E) (ha : PA X (e :: es) t)
    (ht : eval (.Call fe (e :: es) [] pos) X.env = (do callWith pos (← eval fe X.env) [] (backTo pos (starEach (e :: es) X.env)) (backToKw pos (keywordEach [] X.env))) := by rfl)
    (he : starEach (e :: es) X.env = (false, eval e X.env) :: starEach es X.env := by rfl) (hpl : (backTo pos (starEach es X.env)).any (·.1) = false := by rfl) : PE X (.Call fe (e :: es) [] pos) (tCO C sp E tf t) := StX.pe_callO hf c F hr hx ha ht he hpl
theorem g_cO {C : Addr} {S : List Dat → (Dat → Prop) → Prop} {E : XK} {tf : TE} {t : TA} (h : G K w ρ tf fun x => ∃ fs, x = .obj C fs ∧ GA K w ρ t fun ds => S (.obj C fs :: ds) R) : G K w ρ (tCO C (spF K S) E tf t) R := fun c σ H o Q q =>
  h c σ H o _ fun v H1 d o1 l1 r1 ⟨fs, e, h1⟩ => by
    subst e
    cases r1 with
    | @obj a _ dx xs _ ha rf =>
    refine ⟨a, rfl, h1 c σ H1 o1 _ fun vs H2 ds o2 l2 r2 k => ⟨.inr ⟨dx, xs, vw_le a _ (l2.vw a _ ha)⟩, ?_⟩⟩
    exact ⟨_, .obj C fs :: ds, R, o2.trk, .cons (.obj (l2.vw a _ ha) (rf.mono l2.vw)) r2, k, fun v H' d e rv rd => q v H' d (o2.ex e) ((l1.trans l2).trans e.le) rv rd⟩
/-! ### a walk over a list or a tuple -/
def iSq (K : PySem.W.Frag) (tl : TE) : TI := fun σ H R => tl σ H fun x H1 => ∃ a, x = .ref a ∧ (((∃ xs, SqL K H1 a xs) ∧ R (Itl K a) H1) ∨ ((∃ xs, SqT K H1 a xs) ∧ R (Itt K a) H1))
theorem pi_sq {tg l : Expr} {tl : TE} (hl : PE X l tl) : PI X tg l (iSq X.K tl) := by
  refine ⟨fun pins s σ H R I h => ?_⟩
  refine thn (hl.run pins s σ H _ I h) fun v s1 ⟨x, H1, I1, r1, q1⟩ => ?_
  obtain ⟨a, e, q⟩ := q1
  subst e
  cases r1
  rcases q with ⟨⟨xs, hq⟩, q⟩ | ⟨⟨xs, hq⟩, q⟩
  · obtain ⟨its, rv, p, hz⟩ := I1.list hq
    refine wpAny_pyIter_list p.isList ?_
    refine ⟨s1.heap.objs.size, [s1.heap.objs.size], _, _, H1, rfl, I1.kept (t' := s1.toks) fun b o e => Heap.get?_push_of_some _ e, turn_list a _, ⟨_, Heap.get?_push_size _ rfl, rfl, rfl⟩, fun b hb => ?_, q⟩
    have e : b = s1.heap.objs.size := by simpa using hb
    subst e
    exact I1.fpOk (Nat.le_refl _) (I1.hok.fresh (Nat.le_refl _))
  · obtain ⟨its, rv, p, hz⟩ := I1.tuple hq
    refine wpAny_pyIter_tuple (show s1.heap.IsTuple a its.toArray from p) ?_
    refine ⟨s1.heap.objs.size, [s1.heap.objs.size], _, _, H1, rfl, I1.kept (t' := s1.toks) fun b o e => Heap.get?_push_of_some _ e, turn_tuple a _, ⟨_, Heap.get?_push_size _ rfl, rfl, rfl⟩, fun b hb => ?_, q⟩
    have e : b = s1.heap.objs.size := by simpa using hb
    subst e
    exact I1.fpOk (Nat.le_refl _) (I1.hok.fresh (Nat.le_refl _))
theorem gi_sq {tl : TE} {RI : List Dat → Prop} (h : G K w ρ tl fun d => ∃ ds, (d = .lst ds ∨ d = .tup ds) ∧ RI ds) : GI K w ρ (iSq K tl) RI := fun c σ H o RK q =>
  h c σ H o _ fun v H2 d o2 l r ⟨ds, e, k⟩ => by
    rcases e with e | e
    · subst e
      cases r with
      | @lst a xs _ ha rl =>
      refine ⟨a, rfl, .inl ⟨⟨xs, .inl (.inl (vw_le a _ ha))⟩, q _ H2 _ _ _ ds o2 l (walk_list (xs := xs)) rl.length.symm (fun H3 e => .inl (.inl (e a _ ha))) (fun i H3 x H' c' ρ' σ' hi o3 e y => ?_) k⟩⟩
      obtain ⟨y1, y2⟩ := y
      subst y1
      obtain ⟨d, e1, r1⟩ := rl.get' y2
      exact ⟨d, e1, o3, Ex.refl _, r1.mono e⟩
    · subst e
      cases r with
      | @tup a xs _ ha rl =>
      refine ⟨a, rfl, .inr ⟨⟨xs, ex_t vw_le ha⟩, q _ H2 _ _ _ ds o2 l (walk_tup (xs := xs)) rl.length.symm (fun H3 e => ex_t e ha) (fun i H3 x H' c' ρ' σ' hi o3 e y => ?_) k⟩⟩
      obtain ⟨y1, y2⟩ := y
      subst y1
      obtain ⟨d, e1, r1⟩ := rl.get' y2
      exact ⟨d, e1, o3, Ex.refl _, r1.mono e⟩
end
end BV

end

section
set_option maxHeartbeats 4000000
/-! Own special methods: truth, ==; properties. -/
namespace BV
open PySem PySem.Spec L2
open PyProof.Rows (isTrue_plain)
/-- an own special method -/
structure Spm (K : PySem.W.Frag) (C : Addr) (n : Str) (g : Addr) : Prop where
  at_ : PySem.W.findIn K (.ref C) n = some (some (.ref g))
  fn : PySem.W.isFn K (.ref g) = true
def tTrO (C : Addr) (sp : Sp) (E : XK) (ta : TE) : TT := fun σ H Q => ta σ H fun x H1 => ∃ a dx fs, x = .ref a ∧ H1 a = some (.ins C dx fs) ∧ sp [.ref a] H1 (fun v H2 => ∃ b, v = .bl b ∧ Q b H2) E
/-- x == y by x's own way -/
def rEqO (C : Addr) (sp : Sp) (E : XK) : R2 := fun x y H Q => ∃ a dx fs b dy gs, x = .ref a ∧ y = .ref b ∧ H a = some (.ins C dx fs) ∧ H b = some (.ins C dy gs) ∧ sp [.ref a, .ref b] H (fun v H2 => ∃ b, v = .bl b ∧ Q (.bl b) H2) E
section
variable {X : Cx} {CX : CXT} {k : Nat} {C g : Addr} {sp : Sp} {E : XK} {a : Expr} {ta : TE}
theorem pt_trO (ha : PE X a ta) (M : Spm X.K C "__bool__" g) (F : FnR X.prog X.w X.K X.mg X.base CX k g sp) (hr : Room k X.A) (hx : Passes CX X E)
    (he : ∀ whole, isTrue a X.env whole = (do let v ← whole; standAt a.pos; holding [v] (truthy v)) := by intro _; rfl) : PT X a (tTrO C sp E ta) := by
  refine ⟨fun pins s σ H Q I h => ?_⟩
  refine isTrue_plain (thn (ha.run pins s σ H _ I h) fun v s1 ⟨x, H1, I1, r1, a, dx, fs, ex, ea, q⟩ => ?_) (he _)
  subst ex
  obtain rfl : v = Value.ref a := r1
  obtain ⟨mA, O, _⟩ := ins_get I1.hok ea
  obtain ⟨od, J, _⟩ := O.look
  obtain ⟨m, hF⟩ := I1.fr
  refine PySem.W.truthy_K hF I1.ok.mod.kin J M.at_ M.fn (wpAny_mono (wpAny_call (run_fnR (us := [.ref a]) (vs := [.ref a]) F hr hx I1 (.cons rfl .nil) q)) (fun u s2 z => ?_) fun _ _ e => e)
  obtain ⟨v, H2, I2, rv, b, ev, q2⟩ := z
  subst ev
  cases (show u = Value.bool b from rv)
  exact ⟨H2, I2, q2⟩
theorem op_eqO (M : Spm X.K C "__eq__" g) (F : FnR X.prog X.w X.K X.mg X.base CX k g sp) (hr : Room k X.A) (hu : X.A.units < cLine) (hx : Passes CX X E) : OpR X (compareOp .Eq) (rEqO C sp E) := by
  intro pins s σ H x y v u Q I rx ry h
  obtain ⟨a, dx, fs, b, dy, gs, ex, ey, ea, eb, q⟩ := h
  subst ex ey
  obtain rfl : v = Value.ref a := rx
  obtain rfl : u = Value.ref b := ry
  obtain ⟨mA, J, _⟩ := ins_get I.hok ea
  obtain ⟨mB, J', _⟩ := ins_get I.hok eb
  obtain ⟨od, J, _⟩ := J.look
  obtain ⟨od', J', _⟩ := J'.look
  obtain ⟨m, hF⟩ := I.fr
  refine PySem.W.cmp_K (op := .Eq) (tb := .ref C) hu hF I.ok.mod.kin J J'.type (by simp [PySem.W.notFirst]) M.at_ M.fn (wpAny_mono (wpAny_call (run_fnR (us := [.ref a, .ref b]) (vs := [.ref a, .ref b]) F hr hx I (.cons rfl (.cons rfl .nil)) q)) (fun u s2 z => ?_) fun _ _ e => e)
  obtain ⟨v, H2, I2, rv, b, ev, q2⟩ := z
  subst ev
  cases (show u = Value.bool b from rv)
  exact ⟨.bl b, H2, I2, rfl, q2⟩
end
section
variable {K : KB} {w w1 : Bool} {ρ : LS} {R : Dat → Prop} {ta : TE}
theorem gt_trO {C : Addr} {S : List Dat → (Dat → Prop) → Prop} {E : XK} {RT : Bool → Prop} (h : G K true ρ ta fun x => ∃ fs, x = .obj C fs ∧ S [.obj C fs] fun d => ∃ b, d = .bl b ∧ RT b) : GT K ρ (tTrO C (spF K S) E ta) RT := fun c σ H o Q q =>
  h c σ H o _ fun v H1 d o1 l1 r1 ⟨fs, e, h1⟩ => by
    subst e
    cases r1 with
    | @obj a _ dx xs _ ha rf =>
    refine ⟨a, dx, xs, rfl, vw_le a _ ha, _, [.obj C fs], _, o1.trk (w := true), .cons (.obj ha rf) .nil, h1, fun v H' d e rv rd => ?_⟩
    obtain ⟨b, ed, rb⟩ := rd
    subst ed
    cases rv
    exact ⟨b, rfl, q b H' (o1.ex e) (l1.trans e.le) rb⟩
theorem o2_eqO {C : Addr} {S : List Dat → (Dat → Prop) → Prop} {E : XK} {fs gs : List (Str × Dat)} (h : S [.obj C fs, .obj C gs] fun d => ∃ b, d = .bl b ∧ R (.bl b)) : Op2 K w w1 ρ (rEqO C (spF K S) E) (.obj C fs) (.obj C gs) R := fun c σ H u v o r1 r2 Q q => by
  cases r1 with
  | @obj a _ dx xs _ ha rf =>
  cases r2 with
  | @obj b _ dy ys _ hb rg =>
  refine ⟨a, dx, xs, b, dy, ys, rfl, rfl, vw_le a _ ha, vw_le b _ hb, _, [.obj C fs, .obj C gs], _, o.trk (w := w), .cons (.obj ha rf) (.cons (.obj hb rg) .nil), h, fun v H' d e rv rd => ?_⟩
  obtain ⟨t, ed, rb⟩ := rd
  subst ed
  cases rv
  exact ⟨t, rfl, q _ H' _ (o.ex e) e.le (.bl t) rb⟩
/-- a property -/
theorem g_prop {C : Addr} {S : List Dat → (Dat → Prop) → Prop} {E : XK} (h : G K w ρ ta fun x => ∃ fs, x = .obj C fs ∧ S [.obj C fs] R) : G K w ρ (tProp C (spF K S) [] E ta) R := fun c σ H o Q q =>
  h c σ H o _ fun v H1 d o1 l1 r1 ⟨fs, e, h1⟩ => by
    subst e
    cases r1 with
    | @obj a _ dx xs _ ha rf =>
    exact ⟨a, dx, xs, rfl, vw_le a _ ha, _, [.obj C fs], R, o1.trk (w := w), .cons (.obj ha rf) .nil, h1, fun v H' d e rv rd => q v H' d (o1.ex e) (l1.trans e.le) rv rd⟩
end
end BV

end

section
set_option maxHeartbeats 4000000
/-! Own exceptions whose __init__ begins with super().__init__(..). -/
namespace BV
open PySem PySem.Spec L2
section
open PySem.W PySem.Calls PyProof.Rows
variable {prog : Program} {w : World} {A : Around} {E : Value → Shared → Prop} {h : Heap} {g : Array GenState} {d : Drawn} {t : Nat} {os : OsState}
  {nm q : Str} {C N : Addr} {bs bm : List Value} {hdct : Bool} {sn : List Str} {sub : List Value} {ab : Bool} {col : Option Bool} {dd : Option Addr} {k0 k1 k2 k3 k5 : Option Value}
theorem call_bwV {u e t0 : Addr} {rest : List Value} {Q : Value → Shared → Prop} (hC : h.get? C = some (excClassObj nm q C N bs bm hdct sn sub ab col dd k0 k1 k2 k3 k5 "ValueError.__new__"))
    (he : h.get? e = some (HandSPX.excO C t0)) (hu : h.get? u = some (kxs_mw "ValueError.__init__" e)) (hrest : rest.length ≤ sizeLine)
    (hq : ∀ h' t1, (∀ b o, b ≠ e → h.get? b = some o → h'.get? b = some o) → h'.get? e = some (HandSPX.excO C t1) → Q .none ⟨h', g, d, t, os⟩) :
    wpAny (model prog w) A (call (.ref u) rest) Q E ⟨h, g, d, t, os⟩ := by
  refine wpAny_call (codeAny_of_tree ?_)
  show wpAny _ A.in1 (callAny (.ref u) ⟨rest, []⟩) _ _ _
  simp only [callAny]
  refine wpAny_bind (wpAny_load hu ?_)
  simp only [kxs_mw, show (Value.type "method-wrapper" == Value.type "method" || Value.type "method-wrapper" == Value.type "builtin_function_or_method" || Value.type "method-wrapper" == Value.type "method-wrapper") = true by decide, if_true]
  refine KFB.if_so (by decide) ?_
  refine wpAny_bind (check_bound_init PySem.F.excBase_ValueError.toExcCallFacts hC he rfl ?_)
  refine wpAny_bind (wpAny_pure (wpAny_pure ?_))
  refine ⟨plainId_quiet PySem.F.excBase_ValueError.init.plain _, codeAny_builtin PySem.F.excBase_ValueError.initEntry ?_⟩
  exact exc_init_tree (cls := .ref C) (t0 := t0) (dv := none) (c2 := .none) (c3 := .none) (b4 := .bool false) he hrest fun h' k e' t' => hq h' _ k e'
end
/-- what the written part says of a class D's def with super() in it -/
structure SupC (P : Program) (K : PySem.W.Frag) (mg : Str → Option Value) (D cc cda : Addr) : Prop where
  code : ∃ ccl cdd vs ccs file tf, K.lookup cda = some ⟨ccl, cdd, .fields vs, ccs⟩ ∧ vs[2]? = some (.str file tf) ∧ ((P.main.file : Str) == file) = true
  top : (P.main.scope.names.lookup ("super" : Str)).isSome = false
  cell : ∃ cl cld csl, K.lookup cc = some ⟨cl, cld, .cell (some (.ref D)), csl⟩
  cls : ∃ ccl cdd cd sl, K.lookup D = some ⟨ccl, cdd, .cls cd, sl⟩
  sup : mg "super" = none
  any : PySem.W.nsIn K cStatics "thirdparty.any" = some none
/-- a class C from which D's __init__ goes on to ValueError's -/
structure SupX (K : PySem.W.Frag) (C D : Addr) : Prop where
  sub : PySem.W.mroIn K C (.ref D) = some true
  ini : PySem.W.ks_superIn K C D "__init__" = some (some (.builtin "ValueError.__init__"))
  val : PySem.W.subIn K (.ref C) (.type "ValueError") = some true
/-- a def whose first statement is super().__init__(..) -/
structure FunS (K : PySem.W.Frag) (x qual : Str) (st : Stmt) (f cc cda : Addr) (fd : FuncData) : Prop where
  ex : ∃ (oc : Value) (od : Option Addr) (kV doc pm : Value) (an : Option Addr) (ct : Value) (osl : Array (Option Value)),
    fd = PySem.W.fnX x qual (defArgs st) (defBody st) (defScope st) [("__class__", cc)] .none kV doc pm an (.ref cda) ct ∧ K.lookup f = some ⟨oc, od, .func fd, osl⟩ ∧ PySem.W.codeIn K (.ref cda) qual = true
@[reducible] def nfOf (x qual : Str) (st : Stmt) (cc cda : Addr) : NdefX.NF := ⟨x, qual, defArgs st, defBody st, defScope st, [("__class__", cc)], cda⟩
/-- THE RULE for such a def -/
theorem fnS {P : Program} {w : World} {K : PySem.W.Frag} {mg : Str → Option Value} {base : Heap} {CX : CXT} {k : Nat} {x qual : Str} {st : Stmt} {f cc cda D : Addr} {fd : FuncData} {N ps : List Str} {p0 p1 p2 p3 p4 : Pos} {e : Expr} {es : List Expr} {rest : List Stmt} {ar : Arg} {sp : Sp} {pl : Env → Sem Bool}
    (F : FunS K x qual st f cc cda fd) (S : NdefX.NScope N ps ["__class__"] (defScope st)) (U : SupC P K mg D cc cda)
    (hbd : defBody st = .Expr (.Call (.Attribute (.Call (.Name "super" p0) [] [] p1) "__init__" p2) (e :: es) [] p3) p4 :: rest)
    (hp : ((defArgs st).posonlyargs ++ (defArgs st).args).head? = some ar) (har : ps[0]? = some ar.arg) (hks : (defScope st).names.lookup ("super" : Str) = some .globalImplicit) (hnd : ps.Nodup)
    (hc : ∀ env : Env, eval (.Call (.Attribute (.Call (.Name "super" p0) [] [] p1) "__init__" p2) (e :: es) [] p3) env = (do
      let ov ← attributeBase (.Call (.Name "super" p0) [] [] p1) "__init__" env (eval (.Call (.Name "super" p0) [] [] p1) env)
      standAt p2.atName
      let (f, first) ← holding [ov] (getMethod ov "__init__" (pl env))
      callWith p3 f first (backTo p3 (starEach (e :: es) env)) []))
    (hse : ∀ env : Env, starEach (e :: es) env = (false, eval e env) :: starEach es env) (hpl : ∀ env : Env, (backTo p3 (starEach es env)).any (·.1) = false) (hsw : ∀ env : Env, swapsWith (.Call (.Attribute (.Call (.Name "super" p0) [] [] p1) "__init__" p2) (e :: es) [] p3) none p4.line env = pure false)
    (len : ∀ vs H Q E, sp vs H Q E → vs.length = ps.length)
    (hbody : ∀ (A : Around) (outer : List Env) (s : Shared) (H : Hp) (vs : List V) (Q : VK) (E : XK), Room k (A.deeper (NdefX.envF (nfOf x qual st cc cda) f s.heap.objs.size)) → sp vs H Q E →
      ∃ t tr, PA (NdefX.ncx CX P w K mg base N (nfOf x qual st cc cda) f A outer s H E) (e :: es) t ∧ PSs (NdefX.ncx CX P w K mg base N (nfOf x qual st cc cda) f A outer s H E) rest tr ∧
        ∃ a C, vs[0]? = some (.ref a) ∧ OexC K C ∧ SupX K C D ∧ H a = some (exo a C none) ∧ t (NdefX.startF N vs [none]) H fun ws H1 => ws.length ≤ 1000 ∧ H1 a = some (exo a C none) ∧ tr { nx := fun _ H' => Q .non H', rt := Q } (NdefX.startF N vs [none]) H1) :
    FnOk P w K mg base CX (k + 1) f fd ps sp := by
  obtain ⟨oc, od, kV, doc, pm, an, ct, osl, rfl, lk, hcd⟩ := F.ex
  refine ⟨len, fun A outer s H args us vs Q E hr e0 hb r hsp => ?_⟩
  have hl := len _ _ _ _ hsp
  have kk : ∀ b o, base.get? b = some o → s.heap.get? b = some o := fun b o e => (e0.bs b o e).1
  have KX : K.In s.heap := e0.mod.kin.keeps kk
  have lim := e0.mod.nolimit.keeps kk
  obtain ⟨cl, cld, csl, hcell⟩ := U.cell
  have hccB := e0.mod.kin _ _ hcell
  have hkc : (defScope st).names.lookup ("__class__" : Str) = some .free := S.frk _ (by simp)
  have lkc : ∀ {y : Str} {c : Addr}, ([(("__class__" : Str), cc)] : List (Str × Addr)).lookup y = some c → y = "__class__" ∧ c = cc := fun {y c} h => by
    rw [List.lookup_cons] at h
    by_cases hy : y = "__class__"
    · subst hy
      simp at h
      exact ⟨rfl, h.symm⟩
    · have : (y == ("__class__" : Str)) = false := by simpa using hy
      rw [this] at h
      simp at h
  have C : NdefX.CellsAt [("__class__", cc)] ["__class__"] [none] s.heap H := by
    refine ⟨rfl, fun y c h => ?_, fun x y c h1 h2 => ?_, fun i y h => ?_⟩
    · obtain ⟨_, rfl⟩ := lkc h
      exact ⟨(e0.bs _ _ hccB).2, _, _, kk _ _ hccB, rfl⟩
    · rw [(lkc h1).1, (lkc h2).1]
    · cases i with
      | zero =>
        simp at h
        subst h
        exact ⟨cc, by simp [List.lookup], fun v hv => by simp at hv⟩
      | succ i => simp at h
  refine PySem.ks_codeAny_call_defAt (body := defBody st) (binds := ps.zip us) hr.depth (KX _ _ lk) rfl lim (PySem.W.codeRec_of KX hcd) rfl hb S.nocell (fun ⟨n, _⟩ hy => S.par n (List.of_mem_zip hy).1) (fun h₁ hns kp => ?_) S.co S.gen S.kind
  have I : Inv (NdefX.ncx CX P w K mg base N (nfOf x qual st cc cda) f A outer s H E) [] (NdefX.startF N vs [none]) H { s with heap := h₁, toks := s.toks + (ps.zip us).length } := NdefX.inv_startN S hr.hd e0 hl r C hns kp
  obtain ⟨t, tr, ht, htr, a, C', ea0, oex, sx, eH, hq⟩ := hbody A outer s H vs Q E (hr.deeper _) hsp
  rw [hbd]
  obtain ⟨ccl, cdd, cvs, ccs, file, tf, hcode, hvs, hfile⟩ := U.code
  obtain ⟨Dc, Dd, Dcd, Dsl, hD⟩ := U.cls
  obtain ⟨mb, hmb, hmb2⟩ := e0.mod.blt
  have fin : ∀ {s' : Shared} {σ' : L2.St} {H' : Hp} {v : V} {u : Value}, Inv (NdefX.ncx CX P w K mg base N (nfOf x qual st cc cda) f A outer s H E) [] σ' H' s' → L2.RelV v u → Q v H' → CE outer P w H s Q u s' :=
    fun {s' σ' H' v u} J rv q => ⟨v, H', J.os, J.bare, J.base, J.hok, rv, q⟩
  -- the first statement
  refine PySem.ks_wpAt_execs_cons (PySem.ks_wpAt_Expr_any (hi := I.quiet) (hs := hsw _) ?_)
  refine PySem.ks_wpAt_MethodCall (he := hc _) ?_
  refine PySem.ks_wpAt_super_base hks hkc (by decide) rfl (I.kIn _ _ lk) rfl hp rfl (I.kIn _ _ hcode) rfl hvs hfile U.top ?_
  refine PySem.W.ks_loadName_global S.kind hks (PySem.Calls.loadGlobal_builtin (mg := mg) (mb := mb) (e0.mod.glob.keeps I.bk) U.sup (hmb.keeps I.bk) ((hmb2 _ (by decide +kernel)).trans (by rw [PyProof.Rows.Boot.«super»])) ⟨rfl, ?_⟩)
  refine wpAny_loadName_free S.kind hkc rfl ⟨_, I.kIn _ _ hcell, rfl⟩ ?_
  have hu0 : us[0]? = some (.ref a) := by
    revert ea0
    cases r with
    | nil => intro z; cases z
    | cons r1 _ =>
      intro z
      simp at z
      subst z
      have r1 : _ = Value.ref a := r1
      simp [r1]
  have hself : (ps.zip us).reverse.lookup ar.arg = some (.ref a) := NdefX.zip_look hnd har hu0
  have hap : ar.arg ∈ ps := List.mem_of_getElem? har
  refine wpAny_loadName_local S.kind (S.par _ hap) hns hself ?_
  refine PySem.ks_wpAny_isType_cls (I.kIn _ _ hD) rfl ⟨rfl, ?_⟩
  obtain ⟨t1, hexo⟩ := exo_at I.hok eH
  refine PySem.ks_wpAny_call_super (I.kIn _ _ hD) rfl hexo rfl (fun c z => ?_) (PySem.W.looks_mroIn I.kIn sx.sub) (fun h2 hso kp2 => ?_)
  · cases z
  have I2 := I.kept (h' := h2) (t' := s.toks + (ps.zip us).length) kp2
  obtain ⟨t2, hexo2⟩ := exo_at I2.hok eH
  have IA : PySem.W.InstAt h2 a _ C' none := ⟨hexo2, rfl, rfl, trivial⟩
  obtain ⟨cd, hcd2⟩ : ∃ cd, PySem.W.clsIn K C' = some cd := by
    cases z : PySem.W.clsIn K C' with
    | none =>
      have q := sx.ini
      unfold PySem.W.ks_superIn at q
      rw [z] at q
      cases q
    | some cd => exact ⟨cd, rfl⟩
  have hm := sx.ini
  unfold PySem.W.ks_superIn at hm
  rw [hcd2] at hm
  refine PySem.W.kxs_getMethod (K := K) PySem.W.kxs_ValueError hso (PySem.W.looks_opaque I2.kIn U.any) (l₀ := cd.mro) (fun A Q E s k q => wpAny_bind ((PySem.W.looks_clsIn I2.kIn hcd2) A _ E s k (wpAny_pure q))) rfl I2.kIn hm (IA.type.andThen (PySem.W.looks_subIn I2.kIn sx.val)) (PySem.W.ks_ne I2.kIn IA hcd2) (by decide) ?_
  have hu : (h2.push (PySem.W.kxs_mw "ValueError.__init__" a)).get? h2.objs.size = some (PySem.W.kxs_mw "ValueError.__init__" a) := Heap.get?_push_at rfl rfl
  have I3 := I2.kept (h' := h2.push (PySem.W.kxs_mw "ValueError.__init__" a)) (t' := s.toks + (ps.zip us).length + 1) (fun b o q => Heap.get?_push_of_some _ q)
  have I4 := I3.pins_of (pins' := [(h2.objs.size, PySem.W.kxs_mw "ValueError.__init__" a)]) (fun p hp => by
    have e1 : p = (h2.objs.size, PySem.W.kxs_mw "ValueError.__init__" a) := by
      have hp : p ∈ [(h2.objs.size, PySem.W.kxs_mw "ValueError.__init__" a)] := hp
      simpa using hp
    subst e1
    refine ⟨hu, I2.hok.gone (Heap.get?_none_of_le (Nat.le_refl _)), ?_, I2.nofs (Nat.le_refl _), fun v z => by cases z⟩
    exact Nat.ne_of_gt I2.lt)
  refine PySem.W.kxs_callWith (i := "ValueError.__init__") (x := a) (by rw [hse]; show (false || (backTo p3 (starEach es _)).any (·.1)) = false; rw [hpl]; rfl) ?_
  have hcall := ht.run p3 _ _ _ _ _ I4 hq
  rw [hse] at hcall ⊢
  refine PySem.Calls.evalArgs_plain (thn hcall fun ws s5 ⟨xs, H5, I5, r5, hl5, e5, q5⟩ => ?_)
  have hu5 := (I5.pin (h2.objs.size, PySem.W.kxs_mw "ValueError.__init__" a) (List.mem_append_right _ (List.mem_singleton.mpr rfl))).1
  refine ⟨hu5, ?_⟩
  obtain ⟨nm, q, N', bs, bm, sn, sub, ab, col, dd, k0, k1, k2, k3, k5, hC, hbm⟩ := oex.cls
  obtain ⟨t5, ho5⟩ := exo_at I5.hok e5
  have I6 : Inv (NdefX.ncx CX P w K mg base N (nfOf x qual st cc cda) f A outer s H E) [] (NdefX.startF N vs [none]) H5 s5 := I5.pins_of fun p hp => by cases hp
  have hC5 := I6.kIn _ _ hC
  obtain ⟨hh, g5, d5, tk5, os5⟩ := s5
  have hlen : ws.length ≤ sizeLine := by
    rw [← Paired.length r5, sizeLine_eq]
    omega
  refine call_bwV hC5 ho5 hu5 hlen (fun h' t6 k hx => ?_)
  have J := I6.write (h' := h') (t' := tk5) (x := a) (e := a) (o := exo a C' none) (by rw [e5]; exact True.intro) (.inl rfl) k ⟨_, hx⟩ (exo_ok hx)
  have eu : upd H5 a (exo a C' none) = H5 := by
    funext b
    by_cases hb : b = a
    · rw [hb, upd_same, e5]
    · rw [upd_ne hb]
  rw [eu] at J
  refine PySem.wpAt_of_wpAny (wpAny_mono (htr.run [] _ _ _ _ J q5) (fun fl s' hs => ?_) fun e s' hs => hs)
  cases fl with
  | ret u =>
    obtain ⟨v, σ', H', J, rv, q⟩ := hs
    exact fin J rv q
  | next =>
    obtain ⟨σ', H', J, q⟩ := hs
    exact fin (v := V.non) (u := Value.none) J rfl q
  | brk =>
    obtain ⟨_, _, _, q⟩ := hs
    exact False.elim q
  | cont =>
    obtain ⟨_, _, _, q⟩ := hs
    exact False.elim q
end BV

end

section
set_option maxHeartbeats 4000000
/-! try with several clauses, each with or without a name -/
namespace BV
open PySem PySem.Spec L2
abbrev TSx := Addr → Value → Option Addr → TS
/-- a clause: its class, the slot of its name, its suite -/
abbrev Clause := Value × Option Nat × TSx
def offI : Option Nat → St → St
  | none, σ => σ
  | some i, σ => σ.set i none
def onI : Option Nat → Addr → L2.St → L2.St
  | none, _, σ => σ
  | some i, a, σ => σ.set i (some (.ref a))
def endI (o : Option Nat) (D : Ends) : Ends := { nx := fun σ H => D.nx (offI o σ) H, rt := D.rt, bk := fun σ H => D.bk (offI o σ) H, ct := fun σ H => D.ct (offI o σ) H }
def wCl (K : PySem.W.Frag) (Wout : WX) (D : Ends) : List Clause → WX
  | [] => Wout
  | (c, o, ts) :: r => fun cls d σ H => ∃ b, PySem.W.exmOne K cls c = some b ∧ (b = true → ∀ a, H a = none → ts a cls d (endI o D) (onI o a σ) H) ∧ (b = false → wCl K Wout D r cls d σ H)
/-- the reading of a try; kept whole, so that its body's reading can be found again -/
def tTry (K : PySem.W.Frag) (Wout : WX) (l : List Clause) (tb : WX → TS) : TS := fun D σ H => tb (wCl K Wout D l) D σ H
inductive ClOk (X : Cx) : List ExceptHandler → List Clause → Prop
  | nil : ClOk X [] []
  | cons {x : Str} {c : Value} {ts : TSx} {b₀ : Stmt} {suite : List Stmt} {np pos' : Pos} {hds : List ExceptHandler} {l : List Clause} (hc : Names X x c)
      (hsu : ∀ (a : Addr) (oe : Obj) (cls : Value) (d : Option Addr) (pn : List (Addr × Obj)), Zc cls d oe → (∃ vs, oe.data = .fields vs) → PSs (X.suite a ((a, oe) :: pn)) (b₀ :: suite) (ts a cls d)) (r : ClOk X hds l) :
      ClOk X (.ExceptHandler (some (.Name x np)) none (b₀ :: suite) pos' :: hds) ((c, none, ts) :: l)
  | named {x n : Str} {c : Value} {i : Nat} {ts : TSx} {b₀ : Stmt} {suite : List Stmt} {np pos' : Pos} {hds : List ExceptHandler} {l : List Clause} (hc : Names X x c) (hi : X.N[i]? = some n) (hln : X.env.kindOf n = some .local)
      (hsu : ∀ (a : Addr) (oe : Obj) (cls : Value) (d : Option Addr) (pn : List (Addr × Obj)), Zc cls d oe → (∃ vs, oe.data = .fields vs) → PSs (X.suite a ((a, oe) :: pn)) (b₀ :: suite) (ts a cls d)) (r : ClOk X hds l) :
      ClOk X (.ExceptHandler (some (.Name x np)) (some n) (b₀ :: suite) pos' :: hds) ((c, some i, ts) :: l)
section
variable {X : Cx} {body : List Stmt} {h₀ : ExceptHandler} {hds : List ExceptHandler} {l : List Clause} {pos : Pos} {tb : WX → TS} {Wout : WX}
open PyProof.Rows in
theorem ps_tryC (hs : X.stack = X.env :: X.outer) (hf : X.env.frame = some X.env.locals) (hN : X.N.Nodup) (tk : Takes X Wout)
    (hb : ∀ (W : WX) (pn : List (Addr × Obj)) (xe : Value → Shared → Prop), Takes (X.tr pn xe) W → PassesOwn (model X.prog X.w) X.A X.env xe → PSs (X.tr pn xe) body (tb W))
    (hh : ClOk X (h₀ :: hds) l) : PS X (.Try body (h₀ :: hds) [] [] pos) (tTry X.K Wout l tb) := by
  refine ⟨fun pins s σ H D I h => ?_⟩
  have h : tb (wCl X.K Wout D l) D σ H := h
  have ok := I.ok
  have hfr : X.A.frames = some (X.env :: X.outer) := by rw [ok.frames, hs]
  refine wpAny_Try_except ?_
  refine wpAny_mono ((hb (wCl X.K Wout D l) (X.pn ++ pins) (fun e s₁ => wpAny (model X.prog X.w) X.A (noteFrame e X.env) (fun _ s₂ => wpAny (model X.prog X.w) X.A (setFlight e none) (fun _ s₃ =>
    wpAny (model X.prog X.w) X.A (handleBy e X.env (h₀ :: hds)) (SP X pins D) X.xe s₃) X.xe s₂) X.xe s₁) (fun u s' xx => ?_) PassesOwn.looking).run [] s σ H D (I.toTry _) h) (fun f s1 hsp => ?_) (fun e s1 he => he)
  · obtain ⟨a, B, sI, pins', σ', H', cls, d, rfl, J', nb, up, sky, na, os, ag, w⟩ := xx
    have J : Inv X pins σ' H' sI := J'.ofTry ok
    have sky' : Sky B (X.env :: X.outer) a (Zc cls d) X.env.locals s'.heap := by rw [← hs]; exact sky
    show wpAny (model X.prog X.w) X.A (noteFrame (.ref a) X.env) _ _ _
    refine Sky.land Zc.steady hfr hf sky' fun h3 fl3 up3 => ?_
    have J3 : Inv X pins σ' H' { s' with heap := h3 } := J.landed nb fl3.1 (up.trans up3) os ag
    obtain ⟨oe3, vs3, he3, hz3, hd3⟩ := fl3.there
    have nfr : a ∉ frs (X.env :: X.outer) := fun hm => by
      obtain ⟨_, o', e', hnf⟩ := fl3.2.2.1.mem hm
      rw [he3] at e'; cases e'
      exact hnf _ hd3
    have nL : a ≠ X.env.locals := fun z => nfr (List.mem_filterMap.mpr ⟨X.env, List.mem_cons_self, by rw [hf, z]⟩)
    have nF : a ∉ X.fs := fun hm => by
      obtain ⟨e, he, q⟩ := List.mem_filterMap.mp hm
      exact nfr (List.mem_filterMap.mpr ⟨e, List.mem_cons_of_mem _ he, q⟩)
    have S3 := J3.suite he3 hd3 na nL nF
    have LT : PySem.W.Looks (model X.prog X.w) h3 (typeOf (.ref a)) cls := fun A Q E s k q => wpAny_typeOf_ref (k _ _ he3) (by rw [hz3.1]; exact q)
    have test : ∀ {x : Str} {c : Value} {np : Pos}, Names X x c → ∀ {Q : Value → Shared → Prop} {E : Value → Shared → Prop}, Q c { s' with heap := h3 } → wpAny (model X.prog X.w) (X.A.mark (some (.ref a))) (eval (.Name x np) X.env) Q E { s' with heap := h3 } := fun {x c np} hc {Q E} q => by
      obtain ⟨hg, hdbg, hm | ⟨hm, hv, hnn⟩⟩ := hc
      · exact ld_glob (X := X.suite a ((a, oe3) :: (X.pn ++ pins))) S3 hg hm q hdbg
      · exact ld_blt (X := X.suite a ((a, oe3) :: (X.pn ++ pins))) S3 hg hm hv q hnn hdbg
    have go : ∀ {hds' : List ExceptHandler} {l' : List Clause}, ClOk X hds' l' → wCl X.K Wout D l' cls d σ' H' → wpAny (model X.prog X.w) X.A (handleBy (.ref a) X.env hds') (SP X pins D) X.xe { s' with heap := h3 } := by
      intro hds' l' hk
      induction hk with
      | nil =>
        intro w
        refine wpAny_handleBy_nil ?_
        obtain ⟨k1, k2, k3, oe, vs, T, oT, ts', he, hz, hd, h1, hr⟩ := id fl3
        unfold PySem.passOn
        refine wpAny_bind (wpAny_field he hd h1 ?_)
        rw [if_neg (show ¬ ((Value.ref T == Value.none) = true) from by simp)]
        have fin : wpAny (model X.prog X.w) X.A (setFlight (.ref a) X.env.frame) (fun _ s4 => wpAny (model X.prog X.w) X.A (throw (.ref a) : Sem Flow) (SP X pins D) X.xe s4) X.xe { s' with heap := h3 } := by
          rw [hf]
          refine HandSPX.setFlight_upZ fl3 fun h4 hh4 up4 => wpAny_throw (tk _ _ ?_)
          exact ⟨a, B, sI, pins, σ', H', cls, d, rfl, J, nb, (up.trans up3).trans up4, .inr (.inr (by rw [hs]; exact hh4)), na, os, ag, w⟩
        first
          | exact wpAny_bind (wpAny_pure (wpAny_bind fin))
          | exact wpAny_bind fin
      | @cons x c ts b₀ suite np pos' hds2 l2 hc hsu r ih =>
        intro w
        obtain ⟨b, hb1, hyes, hno⟩ := w
        have LM := PySem.W.exm_one (M := model X.prog X.w) (J3.kIn) LT hb1
        refine wpAny_handleBy_cons (codeAny_handlers_test (test hc (LM.here ?_))) (by intro q; cases q)
        cases b with
        | true =>
          refine codeAny_handlers_suite ?_
          refine HandSPX.lands_againZ fl3 fun h4 fl4 up4 => ?_
          have J4 : Inv X pins σ' H' { s' with heap := h4 } := J.landed nb fl4.1 ((up.trans up3).trans up4) os ag
          obtain ⟨oe4, vs4, he4, hz4, hd4⟩ := fl4.there
          have S4 := J4.suite he4 hd4 na nL nF
          refine wpAny_mono ((hsu a oe4 cls d (X.pn ++ pins) hz4 ⟨_, hd4⟩).run [] _ _ H' _ S4 (hyes rfl a na)) (fun f s6 hsp => ?_) (fun _ _ z => False.elim z)
          cases f with
          | ret u =>
            obtain ⟨v6, σ6, H6, S6, r6, q6⟩ := hsp
            exact ⟨_, _, _, S6.unsuite ok, r6, q6⟩
          | _ =>
            obtain ⟨σ6, H6, S6, q6⟩ := hsp
            exact ⟨_, _, S6.unsuite ok, q6⟩
        | false => exact ih (hno rfl)
      | @named x n c i ts b₀ suite np pos' hds2 l2 hc hi hln hsu r ih =>
        intro w
        obtain ⟨b, hb1, hyes, hno⟩ := w
        have LM := PySem.W.exm_one (M := model X.prog X.w) (J3.kIn) LT hb1
        refine wpAny_handleBy_cons (codeAny_handlers_test (test hc (LM.here ?_))) (by intro q; cases q)
        cases b with
        | true =>
          refine codeAny_handlers_suite_as ?_
          refine HandSPX.lands_againZ fl3 fun h4 fl4 up4 => ?_
          have J4 : Inv X pins σ' H' { s' with heap := h4 } := J.landed nb fl4.1 ((up.trans up3).trans up4) os ag
          obtain ⟨oe4, vs4, he4, hz4, hd4⟩ := fl4.there
          have S4 := J4.suite he4 hd4 na nL nF
          refine store_ok (X := X.suite a ((a, oe4) :: (X.pn ++ pins))) (v := .ref a) S4 hN hi (.inl hln) rfl (fun s5 S5 => ?_) (.inr hln)
          refine wpAny_mono ((hsu a oe4 cls d (X.pn ++ pins) hz4 ⟨_, hd4⟩).run [] s5 _ H' _ S5 (hyes rfl a na)) (fun f s6 hsp => ?_) (fun _ _ z => False.elim z)
          have end_ : ∀ {σ6 : L2.St} {H6 : Hp} {Q : Shared → Prop}, Inv (X.suite a ((a, oe4) :: (X.pn ++ pins))) [] σ6 H6 s6 → (∀ s7, Inv X pins (σ6.set i none) H6 s7 → Q s7) →
              wpAny (model X.prog X.w) X.A (do bindName X.env n .none; unbindBehindTheSuite X.env n pos') (fun _ s7 => Q s7) X.xe s6 := fun {σ6 H6 Q} S6 hq => gone_ok (S6.unsuite ok) hN hi hln hq
          cases f with
          | ret u =>
            obtain ⟨v6, σ6, H6, S6, r6, q6⟩ := hsp
            exact end_ S6 fun s7 J7 => ⟨_, _, _, J7, r6, q6⟩
          | _ =>
            obtain ⟨σ6, H6, S6, q6⟩ := hsp
            exact end_ S6 fun s7 J7 => ⟨_, _, J7, q6⟩
        | false => exact ih (hno rfl)
    exact go hh w
  · cases f with
    | next =>
      obtain ⟨σ', H', J', q⟩ := hsp
      exact wpAny_execs_nil ⟨σ', H', J'.ofTry ok, q⟩
    | ret u =>
      obtain ⟨v, σ', H', J', r, q⟩ := hsp
      exact ⟨v, σ', H', J'.ofTry ok, r, q⟩
    | _ =>
      obtain ⟨σ', H', J', q⟩ := hsp
      exact ⟨σ', H', J'.ofTry ok, q⟩
end
end BV

end

section
set_option maxHeartbeats 4000000
/-! promises of defs that may let an exception out -/
namespace BV
open PySem PySem.Spec L2
open PyProof.Rows (envOfC)
abbrev RX := Addr → List (Str × Dat) → Prop
def spX (K : PySem.W.Frag) (S : List Dat → (Dat → Prop) → RX → Prop) : Sp := fun vs H Q E => ∃ (P : Addr → Prop) (ds : List Dat) (R : Dat → Prop) (RE : RX), (∀ a, P a → ∃ o, H a = some o) ∧ RepL K (hid P H) vs ds ∧ S ds R RE ∧
  (∀ v H' d, Ex H H' → Rep K (hid P H') v d → R d → Q v H') ∧ ∀ C dx H' xs fs, Ex H H' → hid P H' dx = some (.xd xs) → RepF K (hid P H') xs fs → RE C fs → E (.ref C) (some dx) H'
/-- an __init__ that may let an exception out -/
def spIX (K : PySem.W.Frag) (C0 : Addr) (S : List Dat → (List (Str × Dat) → Prop) → RX → Prop) : Sp := fun vs H Q E => ∃ (P : Addr → Prop) (x dx : Addr) (us : List V) (ds : List Dat) (R : List (Str × Dat) → Prop) (RE : RX), vs = .ref x :: us ∧ H x = some (.ins C0 dx []) ∧ ¬ P x ∧ (∀ a, P a → ∃ o, H a = some o) ∧
  RepL K (hid (fun b => P b ∨ b = x) H) us ds ∧ S ds R RE ∧ (∀ H' dx' xs fs, (∀ b o, b ≠ x → H b = some o → H' b = some o) → H' x = some (.ins C0 dx' xs) → RepF K (hid (fun b => P b ∨ b = x) H') xs fs → R fs → Q .non H') ∧
  ∀ C dx H' xs fs, (∀ b o, b ≠ x → H b = some o → H' b = some o) → hid (fun b => P b ∨ b = x) H' dx = some (.xd xs) → RepF K (hid (fun b => P b ∨ b = x) H') xs fs → RE C fs → E (.ref C) (some dx) H'
section
variable {K : KB} {w : Bool} {ρ : LS} {t : TA} {R : Dat → Prop}
theorem XOk.call {c : Bc} {σ : L2.St} {H1 H' : Hp} {C dx : Addr} {xs : List (Str × V)} {fs : List (Str × Dat)} (o1 : Ok K c ρ σ H1) (e : Ex H1 H') (hx : sv c ρ σ H' dx = some (.xd xs)) (rf : RepF K (sv c ρ σ H') xs fs) (re : K.RE C fs ρ) : K.E (.ref C) (some dx) σ H' :=
  o1.xo C dx ρ σ H' xs fs (o1.ex e).toOk0 hx rf re
theorem g_callX {S : List Dat → (Dat → Prop) → RX → Prop} (h : GA K false ρ t fun ds => ∃ RE, S ds R RE ∧ ∀ C fs, RE C fs → K.RE C fs ρ) : G K false ρ (tCallS (spX K.F S) (WE K.E) t) R := fun c σ H o Q q =>
  h c σ H o _ fun vs H1 ds o1 l1 r1 ⟨RE, k, kx⟩ => ⟨_, ds, R, RE, o1.trk (w := false), r1, k, fun v H' d e rv rd => q v H' d (o1.ex e) (l1.trans e.le) rv rd, fun C dx H' xs fs e hx rf re => XOk.call o1 e hx rf (kx C fs re)⟩
/-- C(..), whose __init__ may let an exception out -/
def tMakeS (C : Addr) (sp : Sp) (E : L2.St → XK) (t : TA) : TE := fun σ H Q => t σ H fun vs H1 => ∀ x dx, H1 x = none → H1 dx = none → dx ≠ x → sp (.ref x :: vs) (upd (upd H1 dx (.own x)) x (.ins C dx [])) (fun v H' => v = .non ∧ Q (.ref x) H') (E σ)
end
section
variable {K : PySem.W.Frag} {P : Program} {wd : World} {mg : Str → Option Value} {base : Heap} {x qual : Str} {st : Stmt} {f : Addr} {fd : FuncData} {N ps : List Str} {k : Nat}
theorem okX {S : List Dat → (Dat → Prop) → RX → Prop} (F : Fun K x qual st f fd) (sc : FnScope N ps (defScope st)) (len : ∀ ds R RE, S ds R RE → ds.length = ps.length)
    (hb : ∀ (cdv : Value) (A : Around) (outer : List Env) (s : Shared) (H : Hp) (E : XK), Room k (A.deeper (envOfC qual (defScope st) s.heap.objs.size f cdv)) →
      ∃ t, PSs (cxOf (L2.CX P wd) P wd K mg base N qual (defScope st) f cdv A outer s H E) (defBody st) t ∧ ∀ ds R RE, S ds R RE → Run ⟨K, fun cls d _ H => E cls d H, fun C fs _ => RE C fs⟩ (startS N ds) t (fun _ => R .non) (fun r _ => ∃ d, r = .d d ∧ R d) (fun _ => False) fun _ => False) :
    FnOk P wd K mg base (L2.CX P wd) (k + 1) f fd ps (spX K S) := by
  refine F.okX sc (fun vs H Q E h => ?_) fun cdv A outer s H vs Q E hr h => ?_
  · obtain ⟨P, ds, R, RE, _, r, hS, _⟩ := h
    rw [r.length]
    exact len ds R RE hS
  · obtain ⟨Pp, ds, R, RE, hp, r, hS, kq, kx⟩ := h
    obtain ⟨t, ht, run⟩ := hb cdv A outer s H E hr
    refine ⟨t, ht, ?_⟩
    have nop : ∀ a, ¬ Pr (startS N ds) (L2.start N vs) a := fun a ⟨i, s', v', h1, h2, h3⟩ => by
      rcases start_get r h1 h2 with e | ⟨y, u, e, _⟩
      · rw [e] at h3; cases h3
      · rw [e] at h3; cases h3
    have o : Ok ⟨K, fun cls d _ H => E cls d H, fun C fs _ => RE C fs⟩ ⟨Pp, fun _ => False, H⟩ (startS N ds) (L2.start N vs) H := by
      refine ⟨⟨start_len r.length, fun i s' v' h1 h2 => ?_, fun i j s1 v1 s2 v2 a g1 g2 g3 => absurd ⟨i, s1, v1, g1, g2, g3⟩ (nop a), fun a h => absurd h (nop a), fun _ _ _ h => h, fun a h => absurd h (nop a), hp⟩, fun C dx ρ' σ' H' xs fs o' hx rf re => ?_⟩
      · rcases start_get r h1 h2 with e | ⟨y, u, e, e2, ru⟩
        · rw [e]; trivial
        · rw [e, e2]
          refine ⟨u, rfl, ru.mono (hid_ex fun b ob hb e => ⟨fun z => ?_, e⟩)⟩
          rcases z with z | z
          · exact hb z
          · rw [if_neg Bool.false_ne_true] at z; exact nop b z
      · have le : Ex (sv ⟨Pp, fun _ => False, H⟩ ρ' σ' H') (hid Pp H') := hid_ex fun b ob hb e => ⟨fun z => hb (.inl z), e⟩
        exact kx C dx H' xs fs (fun b ob e => o'.fr b ob (fun z => z) e) (le dx _ hx) (rf.mono le) re
    refine run ds R RE hS _ _ ⟨fun ρ' σ' H' o' n => ?_, fun ρ' σ' H' v d o' rv rd => ?_, fun ρ' σ' H' a s' o' hx rs hpa rd => ?_, fun _ _ _ _ z => z.elim, fun _ _ _ _ z => z.elim⟩ _ _ o
    · exact kq .non H' .non (fun b ob e => o'.fr b ob (fun z => z) e) .non n
    · obtain ⟨d', e, rd⟩ := rd
      cases e
      exact kq v H' d (fun b ob e => o'.fr b ob (fun z => z) e) (rv.mono (hid_ex fun b ob hb e => ⟨fun z => hb (.inl z), e⟩)) rd
    · obtain ⟨d', e, rd⟩ := rd
      cases e
end
/-! ### raising -/
/-- the __init__ of an exception: the fields it leaves -/
def spE (K : PySem.W.Frag) (D : Addr) (S : List Dat → List (Str × Dat) → Prop) : Sp := fun vs H Q _ => ∃ (P : Addr → Prop) (a C : Addr) (us : List V) (ds : List Dat) (fs : List (Str × Dat)), vs = .ref a :: us ∧ OexC K C ∧ SupX K C D ∧ (∀ f ∈ fs, PySem.W.findIn K (.ref C) f.1 = some none) ∧ H a = some (exo a C none) ∧ P a ∧ (∀ b, P b → ∃ o, H b = some o) ∧
  RepL K (hid P H) us ds ∧ S ds fs ∧ ∀ H' d xs, (∀ b o, b ≠ a → H b = some o → H' b = some o) → H' a = some (exo a C (some d)) → H' d = some (exd d xs) → H d = none → RepF K (hid P H) xs fs → Q .non H'
section
variable {K : KB} {w : Bool} {ρ : LS} {t : TA} {N : LS → Prop} {R : Ret → LS → Prop} {B C' : LS → Prop}
theorem run_raise {S : List Dat → List (Str × Dat) → Prop} {C D : Addr} (T : OexC K.F C) (X : SupX K.F C D) (hf : ∀ ds fs, S ds fs → ∀ f ∈ fs, PySem.W.findIn K.F (.ref C) f.1 = some none) (h : GA K false ρ t fun ds => ds.length ≤ 1000 ∧ ∃ fs, S ds fs ∧ K.RE C fs ρ) :
    Run K ρ (fun _ σ H => tMkO C (spE K.F D S) [] t σ H fun cls d H' => K.E cls d σ H') N R B C' := fun c Dd is σ H o =>
  h c σ H o _ fun vs H1 ds o1 l1 r1 ⟨hl, fs, k, re⟩ => ⟨by rw [r1.length]; exact hl, fun a ha => by
    rw [List.append_nil]
    have e1 : Ex H1 (upd H1 a (exo a C none)) := Ex.new ha
    have nva := o1.vis (w := false) ha
    refine ⟨fun b => (c.P b ∨ (if (false : Bool) = true then Fr ρ σ b else Pr ρ σ b)) ∨ b = a, a, C, vs, ds, fs, rfl, T, X, hf ds fs k, upd_same, .inr rfl, fun b hb => ?_, r1.mono (hid_ex fun b ob hb e => ⟨fun z => ?_, e1 b ob e⟩), k, fun H' d xs hk hxa hxd hd rf => ⟨rfl, d, xs, hxa, hxd, ?_, ?_⟩⟩
    · rcases hb with hb | hb
      · obtain ⟨ob, e⟩ := o1.trk (w := false) b hb
        exact ⟨ob, e1 b ob e⟩
      · rw [hb]; exact ⟨_, upd_same⟩
    · rcases z with z | z
      · exact hb z
      · rw [z, ha] at e; cases e
    · have da : d ≠ a := fun z => by rw [z, upd_same] at hd; cases hd
      rw [upd_ne da] at hd
      exact hd
    · have da : d ≠ a := fun z => by rw [z, upd_same] at hd; cases hd
      have hd1 : H1 d = none := by rw [upd_ne da] at hd; exact hd
      have e3 : Ex H1 (upd (del H' a) d (.xd xs)) := fun b ob e => by
        have ba : b ≠ a := fun z => by rw [z, ha] at e; cases e
        have bd : b ≠ d := fun z => by rw [z, hd1] at e; cases e
        rw [upd_ne bd, del_ne ba]
        exact hk b ob ba (by rw [upd_ne ba]; exact e)
      refine XOk.call o1 e3 (hid_some.mpr ⟨o1.vis (w := false) hd1, upd_same⟩) (rf.mono (hid_ex fun b ob hb e => ⟨fun z => hb (.inl z), ?_⟩)) re
      have ba : b ≠ a := fun z => hb (.inr z)
      rw [upd_ne ba] at e
      exact e3 b ob e⟩
end
/-! ### try -/
section
variable {K : KB} {ρ : LS} {N : LS → Prop} {R : Ret → LS → Prop} {B C' : LS → Prop}
def offS : Option Nat → LS → LS
  | none, ρ => ρ
  | some i, ρ => ρ.set i .no
def onS : Option Nat → Slot → LS → LS
  | none, _, ρ => ρ
  | some i, s, ρ => ρ.set i s
/-- the clauses take an exception of the class C with the fields fs, left at the slots ρ -/
def Hdl (K : KB) (N : LS → Prop) (R : Ret → LS → Prop) (B C' : LS → Prop) (C : Addr) (fs : List (Str × Dat)) (ρ : LS) : List Clause → Prop
  | [] => K.RE C fs ρ
  | (c, o, ts) :: r => ∃ b, PySem.W.exmOne K.F (.ref C) c = some b ∧ (b = true → ∀ a d, Run K (onS o (.exc a d C fs) ρ) (ts a (.ref C) (some d)) (fun ρ => N (offS o ρ)) R (fun ρ => B (offS o ρ)) fun ρ => C' (offS o ρ)) ∧ (b = false → Hdl K N R B C' C fs ρ r)
theorem Ok.off {c : Bc} {σ : L2.St} {H : Hp} (k : Ok K c ρ σ H) (o : Option Nat) : Ok K c (offS o ρ) (offI o σ) H := by
  cases o with
  | none => exact k
  | some i => exact k.setD rfl trivial
theorem run_try {tb : WX → TS} {l : List Clause} {RE : Addr → List (Str × Dat) → List Slot → Prop} (hb : ∀ W, Run ⟨K.F, W, RE⟩ ρ (tb W) N R B C') (hh : ∀ C fs ρ', RE C fs ρ' → Hdl K N R B C' C fs ρ' l) :
    Run K ρ (tTry K.F K.E l tb) N R B C' := fun c D is σ H o => by
  show tb (wCl K.F K.E D l) D σ H
  have up : ∀ ρ σ H, Ok0 K.F c ρ σ H → Ok K c ρ σ H := fun ρ σ H k => ⟨k, o.xo⟩
  refine hb _ c D ⟨fun ρ σ H k => is.nx ρ σ H (up _ _ _ k.toOk0), fun ρ σ H v d k => is.rt ρ σ H v d (up _ _ _ k.toOk0), fun ρ σ H a s k => is.rn ρ σ H a s (up _ _ _ k.toOk0), fun ρ σ H k => is.bk ρ σ H (up _ _ _ k.toOk0), fun ρ σ H k => is.ct ρ σ H (up _ _ _ k.toOk0)⟩ σ H ⟨o.toOk0, fun C dx ρ' σ' H' xs fs o' hx rf re => ?_⟩
  have k := hh C fs ρ' re
  have o2 := up _ _ _ o'
  have hx2 : sv c ρ' σ' H' dx = some (.xd xs) := hx
  have rf2 : RepF K.F (sv c ρ' σ' H') xs fs := rf
  clear hh hb re o' hx rf
  induction l with
  | nil => exact o2.xo C dx ρ' σ' H' xs fs o2.toOk0 hx2 rf2 k
  | cons cl r ih =>
    obtain ⟨cc, oi, ts⟩ := cl
    obtain ⟨b, e, hy, hn⟩ := k
    refine ⟨b, e, fun hb a ha => ?_, fun hb => ih (hn hb)⟩
    refine hy hb a dx c (endI oi D) ⟨fun ρ σ H k n => is.nx (offS oi ρ) (offI oi σ) H (k.off oi) n, fun ρ σ H v d k r rd => is.rt ρ σ H v d k r rd, fun ρ σ H a s k hx rs hp rd => is.rn ρ σ H a s k hx rs hp rd, fun ρ σ H k n => is.bk (offS oi ρ) (offI oi σ) H (k.off oi) n, fun ρ σ H k n => is.ct (offS oi ρ) (offI oi σ) H (k.off oi) n⟩ _ _ ?_
    cases oi with
    | none => exact o2
    | some i => exact o2.setD (s := .exc a dx C fs) (v := some (.ref a)) rfl ⟨xs, rfl, hx2, rf2⟩
theorem g_xf {w : Bool} {i : Nat} {a d C : Addr} {fs : List (Str × Dat)} {f : Str} {x : Dat} {R : Dat → Prop} (h : ρ[i]? = some (.exc a d C fs)) (l : fs.lookup f = some x) (k : R x) : G K w ρ (tXf a (.ref C) (some d) C f (tVar i)) R := fun c σ H o Q q => by
  obtain ⟨v, e, xs, rfl, hd, rf⟩ := o.get h
  refine ⟨.ref a, e, rfl, rfl, d, xs, ?_⟩
  obtain ⟨v, lv, rv⟩ := rf.lookup l
  exact ⟨v, rfl, vw_le d _ hd, lv, q v H x o .refl (rv.mono vw_up2) k⟩
end
end BV

end

section
set_option maxHeartbeats 4000000
/-! the __init__ of an own exception keeps its promise -/
namespace BV
open PySem PySem.Spec L2
def sE1 (f : Str) (A : Dat → Prop) : List Dat → List (Str × Dat) → Prop := fun ds fs => ∃ y, ds = [y] ∧ fs = [(f, y)] ∧ A y
def sE2 (f g : Str) (A : Dat → Dat → Prop) : List Dat → List (Str × Dat) → Prop := fun ds fs => ∃ y z, ds = [y, z] ∧ fs = [(g, z), (f, y)] ∧ A y z
/-- the slots at the entry -/
def startE (n : Nat) (ds : List Dat) : LS := .no :: (ds.map Slot.d ++ List.replicate n .no)
theorem startE_ok {K : PySem.W.Frag} {P : Addr → Prop} {H : Hp} {a : Addr} {us : List V} {ds : List Dat} {N : List Str} (hp : ∀ b, P b → ∃ o, H b = some o) (r : RepL K (hid P H) us ds) (hN : N.length = us.length + 1 + n) (hn : 1 ≤ n) :
    Ok (KB.of K) ⟨P, fun _ => False, H⟩ (startE n ds) (NdefX.startF N (.ref a :: us) [none]) H := by
  have e : NdefX.startF N (.ref a :: us) [none] = some (.ref a) :: (us.map some ++ List.replicate n none) := by
    unfold NdefX.startF
    have z : N.length - (V.ref a :: us).length - [(none : Option V)].length = n - 1 := by
      rw [List.length_cons, hN]
      show us.length + 1 + n - (us.length + 1) - 1 = n - 1
      omega
    rw [z]
    obtain ⟨m, rfl⟩ : ∃ m, n = m + 1 := ⟨n - 1, by omega⟩
    rfl
  rw [e]
  have get : ∀ (i : Nat) (s : Slot) (v : Option V), (startE n ds)[i]? = some s → (some (V.ref a) :: (us.map some ++ List.replicate n none))[i]? = some v → s = .no ∨ ∃ x u, s = .d x ∧ v = some u ∧ Rep K (hid P H) u x := fun i s v h1 h2 => by
    unfold startE at h1
    cases i with
    | zero => left; simp at h1; exact h1.symm
    | succ i =>
      rw [List.getElem?_cons_succ] at h1 h2
      by_cases hi : i < ds.length
      · right
        rw [List.getElem?_append_left (by simpa using hi), List.getElem?_map] at h1
        rw [List.getElem?_append_left (by rw [List.length_map, r.length]; exact hi), List.getElem?_map] at h2
        cases e1 : ds[i]? with
        | none => rw [e1] at h1; cases h1
        | some x =>
          rw [e1] at h1
          cases h1
          obtain ⟨u, e2, ru⟩ := r.get e1
          rw [e2] at h2
          cases h2
          exact ⟨x, u, rfl, rfl, ru⟩
      · left
        rw [List.getElem?_append_right (by simpa using hi), List.getElem?_replicate] at h1
        split at h1
        · cases h1; rfl
        · cases h1
  have nop : ∀ b, ¬ Pr (startE n ds) (some (V.ref a) :: (us.map some ++ List.replicate n none)) b := fun b ⟨i, s', v', h1, h2, h3⟩ => by
    rcases get i s' v' h1 h2 with e | ⟨y, u, e, _⟩
    · rw [e] at h3; cases h3
    · rw [e] at h3; cases h3
  refine ⟨⟨?_, fun i s' v' h1 h2 => ?_, fun i j s1 v1 s2 v2 b g1 g2 g3 => absurd ⟨i, s1, v1, g1, g2, g3⟩ (nop b), fun b h => absurd h (nop b), fun _ _ _ h => h, fun b h => absurd h (nop b), hp⟩, .of⟩
  · unfold startE
    simp [r.length]
  · rcases get i s' v' h1 h2 with e | ⟨y, u, e, e2, ru⟩
    · rw [e]; trivial
    · rw [e, e2]
      refine ⟨u, rfl, ru.mono (hid_ex fun b ob hb e => ⟨fun z => ?_, e⟩)⟩
      rcases z with z | z
      · exact hb z
      · rw [if_neg Bool.false_ne_true] at z; exact nop b z
section
variable {P : Program} {w : World} {K : PySem.W.Frag} {mg : Str → Option Value} {base : Heap} {k : Nat} {x qual : Str} {st : Stmt} {f cc cda D : Addr} {fd : FuncData} {N ps : List Str} {p0 p1 p2 p3 p4 : Pos} {e : Expr} {es : List Expr} {rest : List Stmt} {ar : Arg} {pl : Env → Sem Bool} {n : Nat}
theorem okE1 {fl : Str} {Ay : Dat → Prop} (F : FunS K x qual st f cc cda fd) (S : NdefX.NScope N ps ["__class__"] (defScope st)) (U : SupC P K mg D cc cda)
    (hbd : defBody st = .Expr (.Call (.Attribute (.Call (.Name "super" p0) [] [] p1) "__init__" p2) (e :: es) [] p3) p4 :: rest)
    (hp : ((defArgs st).posonlyargs ++ (defArgs st).args).head? = some ar) (har : ps[0]? = some ar.arg) (hks : (defScope st).names.lookup ("super" : Str) = some .globalImplicit) (hnd : ps.Nodup)
    (hc : ∀ env : Env, eval (.Call (.Attribute (.Call (.Name "super" p0) [] [] p1) "__init__" p2) (e :: es) [] p3) env = (do
      let ov ← attributeBase (.Call (.Name "super" p0) [] [] p1) "__init__" env (eval (.Call (.Name "super" p0) [] [] p1) env)
      standAt p2.atName
      let (f, first) ← holding [ov] (getMethod ov "__init__" (pl env))
      callWith p3 f first (backTo p3 (starEach (e :: es) env)) []))
    (hse : ∀ env : Env, starEach (e :: es) env = (false, eval e env) :: starEach es env) (hpl : ∀ env : Env, (backTo p3 (starEach es env)).any (·.1) = false) (hsw : ∀ env : Env, swapsWith (.Call (.Attribute (.Call (.Name "super" p0) [] [] p1) "__init__" p2) (e :: es) [] p3) none p4.line env = pure false)
    (hl : ps.length = 2) (hN : N.length = 2 + n) (hn : 1 ≤ n)
    (hbody : ∀ (A : Around) (outer : List Env) (s : Shared) (H : Hp) (E : XK), Room k (A.deeper (NdefX.envF (nfOf x qual st cc cda) f s.heap.objs.size)) →
      ∃ t, PA (NdefX.ncx CX0 P w K mg base N (nfOf x qual st cc cda) f A outer s H E) (e :: es) t ∧ PSs (NdefX.ncx CX0 P w K mg base N (nfOf x qual st cc cda) f A outer s H E) rest (tOst K fl (tVar 0) (tVar 1)) ∧ ∀ y, Ay y → GA (KB.of K) false (startE n [y]) t fun ds => ds.length ≤ 1000) :
    FnOk P w K mg base CX0 (k + 1) f fd ps (spE K D (sE1 fl Ay)) := by
  refine fnS F S U hbd hp har hks hnd hc hse hpl hsw (fun vs H Q E h => ?_) fun A outer s H vs Q E hr h => ?_
  · obtain ⟨_, _, _, us, ds, fs, rfl, _, _, _, _, _, _, r, ⟨y, rfl, _⟩, _⟩ := h
    rw [List.length_cons, r.length, hl]; rfl
  · obtain ⟨Pp, a, C, us, ds, fs, rfl, oex, sx, hf, ha, pa, hpt, r, ⟨y, rfl, rfl, hy⟩, kq⟩ := h
    obtain ⟨t, ht, htr, run⟩ := hbody A outer s H E hr
    refine ⟨t, _, ht, htr, a, C, rfl, oex, sx, ha, ?_⟩
    have o := startE_ok (a := a) (N := N) (n := n) hpt r (by rw [r.length, hN]; rfl) hn
    obtain ⟨u, rfl, ru⟩ : ∃ u, us = [u] ∧ Rep K (hid Pp H) u y := by
      cases r with
      | cons r1 r2 => cases r2; exact ⟨_, rfl, r1⟩
    refine run y hy _ _ _ o _ fun vs H2 ds o2 l2 r2 hl2 => ⟨by rw [r2.length]; exact hl2, ?_, ?_⟩
    · exact o2.fr a _ (fun z => z) ha
    · refine ⟨u, by unfold NdefX.startF; rfl, .ref a, by unfold NdefX.startF; rfl, a, C, rfl, oex, hf _ List.mem_cons_self, .inl ⟨o2.fr a _ (fun z => z) ha, fun dx hdx ne => ?_⟩⟩
      have hHd : H dx = none := by
        cases e : H dx with
        | none => rfl
        | some ob => rw [o2.fr dx ob (fun z => z) e] at hdx; cases hdx
      refine kq _ dx [(fl, u)] (fun b ob hb e => ?_) upd_same (by rw [upd_ne ne]; exact upd_same) hHd (.cons ru .nil)
      rw [upd_ne hb, upd_ne (fun z => by rw [z, hHd] at e; cases e)]
      exact o2.fr b ob (fun z => z) e
end
end BV

end

section
set_option maxHeartbeats 4000000
/-! own operators and own `in`, which may let an exception out; own == against a tuple -/
namespace BV
open PySem PySem.Spec L2
section
variable {X : Cx} {pins : List (Addr × Obj)} {σ : L2.St} {H : Hp} {s : Shared} {CX : CXT} {k : Nat} {f C : Addr} {sp : Sp} {E : L2.St → XK}
theorem run_fnRS {Q : VK} {us : List Value} {vs : List V} (F : FnR X.prog X.w X.K X.mg X.base CX k f sp) (hr : Room k X.A) (hx : PassesAt CX X σ (E σ)) (I : Inv X pins σ H s) (r : Vals vs us) (h : sp vs H Q (E σ)) :
    codeAny (model X.prog X.w) X.A (.call (.ref f) ⟨us, []⟩) (fun r s' => match r with | .ok (.ret v) => EP X pins σ Q v s' | .ok _ => False | .error e => X.xe e s') s := by
  refine codeAny_mono (F X.A X.stack s H us vs Q (E σ) hr I.env0 r h) fun r s' hq => ?_
  cases r with
  | error e => exact hx pins H s e s' I hq
  | ok fl =>
    cases fl with
    | ret u => exact I.after hq
    | _ => exact False.elim hq
abbrev R2S := L2.St → R2
def OpRS (X : Cx) (f : Value → Value → Sem Value) (r : R2S) : Prop :=
  ∀ (pins : List (Addr × Obj)) (s : Shared) (σ : L2.St) (H : Hp) (x y : V) (v u : Value) (Q : VK), Inv X pins σ H s → RelV x v → RelV y u → r σ x y H Q → wpAny (model X.prog X.w) X.A (f v u) (EP X pins σ Q) X.xe s
def tOpS (r : R2S) (ta tb : TE) : TE := fun σ H Q => ta σ H fun x H1 => tb σ H1 fun y H2 => r σ x y H2 Q
variable {a b : Expr} {ta tb : TE} {pos : Pos}
theorem pe_opS {op : Operator} {r : R2S} (ho : OpRS X (binaryOp op) r) (ha : PE X a ta) (hb : PE X b tb) : PE X (.BinOp a op b pos) (tOpS r ta tb) :=
  ⟨fun pins s σ H Q I h => wpAny_BinOp (binT ha hb I h fun v u s2 x y H2 I2 rx ry q => ho pins s2 σ H2 x y v u Q I2 rx ry q)⟩
theorem pe_cmpRS {op : CmpOp} {r : R2S} (ho : OpRS X (compareOp op) r) (ha : PE X a ta) (hb : PE X b tb) (hm : behindInMarks op b = false) : PE X (.Compare a [op] [b] pos) (tOpS r ta tb) :=
  ⟨fun pins s σ H Q I h => wpAny_Compare1 (binT ha hb I h fun v u s2 x y H2 I2 rx ry q => ho pins s2 σ H2 x y v u Q I2 rx ry q) hm⟩
theorem pt_cmpRS {op : CmpOp} {r : R2S} (ho : OpRS X (compareOp op) r) (ha : PE X a ta) (hb : PE X b tb) (hm : behindInMarks op b = false) : PT X (.Compare a [op] [b] pos) (tTest (tOpS r ta tb)) := by
  refine ⟨fun pins s σ H Q I h => ?_⟩
  refine wpAny_isTrue_Compare1 (thn (ha.run pins s σ H _ I h) fun v s1 ⟨x, H1, I1, r1, q1⟩ => thn (hb.run pins s1 σ H1 _ I1 q1) fun u s2 ⟨y, H2, I2, r2, q2⟩ =>
    thn (ho pins s2 σ H2 x y v u _ I2 r1 r2 q2) fun c s3 ⟨z, H3, I3, r3, k, e, q3⟩ => ?_) hm
  subst e
  cases r3
  exact wpAny_truthy_bool ⟨H3, I3, q3⟩
/-- x op y by x's own way; an object comes back -/
def rBinO (C : Addr) (sp : Sp) (E : L2.St → XK) : R2S := fun σ x y H Q => ∃ a dx fs b dy gs, x = .ref a ∧ y = .ref b ∧ H a = some (.ins C dx fs) ∧ H b = some (.ins C dy gs) ∧ sp [.ref a, .ref b] H (fun v H2 => (∃ r, v = .ref r) ∧ Q v H2) (E σ)
theorem op_binO {op : Operator} (M : Spm X.K C (PySem.dunder op.info.2) f) (hs : PySem.W.selfFirst X.K C = true) (F : FnR X.prog X.w X.K X.mg X.base CX k f sp) (hr : Room k X.A) (hx : ∀ σ, PassesAt CX X σ (E σ)) : OpRS X (binaryOp op) (rBinO C sp E) := by
  intro pins s σ H x y v u Q I rx ry h
  obtain ⟨a, dx, fs, b, dy, gs, ex, ey, ea, eb, q⟩ := h
  subst ex ey
  obtain rfl : v = Value.ref a := rx
  obtain rfl : u = Value.ref b := ry
  obtain ⟨mA, J, _⟩ := ins_get I.hok ea
  obtain ⟨mB, J', _⟩ := ins_get I.hok eb
  obtain ⟨od, J, _⟩ := J.look
  obtain ⟨od', J', _⟩ := J'.look
  obtain ⟨m, hF⟩ := I.fr
  refine PySem.W.binop_K hF I.ok.mod.kin J J'.type hs M.at_ M.fn (wpAny_mono (wpAny_call (run_fnRS (us := [.ref a, .ref b]) (vs := [.ref a, .ref b]) F hr (hx σ) I (.cons rfl (.cons rfl .nil)) q)) (fun u s2 z => ?_) fun _ _ e => e)
  obtain ⟨v, H2, I2, rv, ⟨r, ev⟩, q2⟩ := z
  subst ev
  cases (show u = Value.ref r from rv)
  exact ⟨.ref r, H2, I2, rfl, q2⟩
/-- x in y by y's own way -/
def rInO (C : Addr) (sp : Sp) (E : L2.St → XK) : R2S := fun σ x y H Q => ∃ a dx fs, y = .ref a ∧ H a = some (.ins C dx fs) ∧ sp [.ref a, x] H (fun v H2 => ∃ b, v = .bl b ∧ Q (.bl b) H2) (E σ)
theorem op_inO (M : Spm X.K C "__contains__" f) (F : FnR X.prog X.w X.K X.mg X.base CX k f sp) (hr : Room k X.A) (hx : ∀ σ, PassesAt CX X σ (E σ)) : OpRS X (compareOp .In) (rInO C sp E) := by
  intro pins s σ H x y v u Q I rx ry h
  obtain ⟨a, dx, fs, ey, ea, q⟩ := h
  subst ey
  obtain rfl : u = Value.ref a := ry
  obtain ⟨mA, J, _⟩ := ins_get I.hok ea
  obtain ⟨od, J, _⟩ := J.look
  obtain ⟨m, hF⟩ := I.fr
  refine PySem.W.in_K hF I.ok.mod.kin J M.at_ M.fn (wpAny_mono (wpAny_call (run_fnRS (us := [.ref a, v]) (vs := [.ref a, x]) F hr (hx σ) I (.cons rfl (.cons rx .nil)) q)) (fun u s2 z => ?_) fun _ _ e => e)
  obtain ⟨v, H2, I2, rv, b, ev, q2⟩ := z
  subst ev
  cases (show u = Value.bool b from rv)
  exact wpAny_truthy_bool ⟨.bl b, H2, I2, rfl, q2⟩
/-- x == y by x's own way, y a tuple -/
def rEqT (K : PySem.W.Frag) (C : Addr) (sp : Sp) (E : L2.St → XK) : R2S := fun σ x y H Q => ∃ a dx fs b ys, x = .ref a ∧ y = .ref b ∧ H a = some (.ins C dx fs) ∧ SqT K H b ys ∧ sp [.ref a, .ref b] H (fun v H2 => ∃ b, v = .bl b ∧ Q (.bl b) H2) (E σ)
theorem op_eqT (M : Spm X.K C "__eq__" f) (hn : PySem.W.notFirst X.K C (.type "tuple") = true) (F : FnR X.prog X.w X.K X.mg X.base CX k f sp) (hr : Room k X.A) (hu : X.A.units < cLine) (hx : ∀ σ, PassesAt CX X σ (E σ)) : OpRS X (compareOp .Eq) (rEqT X.K C sp E) := by
  intro pins s σ H x y v u Q I rx ry h
  obtain ⟨a, dx, fs, b, ys, ex, ey, ea, eb, q⟩ := h
  subst ex ey
  obtain rfl : v = Value.ref a := rx
  obtain rfl : u = Value.ref b := ry
  obtain ⟨mA, J, _⟩ := ins_get I.hok ea
  obtain ⟨od, J, _⟩ := J.look
  obtain ⟨its, _, ⟨ot, e1, e2, _⟩, _⟩ := I.tuple eb
  obtain ⟨m, hF⟩ := I.fr
  have hT : PySem.W.Looks (model X.prog X.w) s.heap (typeOf (.ref b)) (.type "tuple") := fun A Q E s k q => wpAny_typeOf_ref (k _ _ e1) (by rw [e2]; exact q)
  refine PySem.W.cmp_K (op := .Eq) (tb := .type "tuple") hu hF I.ok.mod.kin J hT hn M.at_ M.fn (wpAny_mono (wpAny_call (run_fnRS (us := [.ref a, .ref b]) (vs := [.ref a, .ref b]) F hr (hx σ) I (.cons rfl (.cons rfl .nil)) q)) (fun u s2 z => ?_) fun _ _ e => e)
  obtain ⟨v, H2, I2, rv, b, ev, q2⟩ := z
  subst ev
  cases (show u = Value.bool b from rv)
  exact ⟨.bl b, H2, I2, rfl, q2⟩
end
/-! ### by data -/
def Op2S (K : KB) (w1 w2 : Bool) (ρ : List Slot) (r : R2S) (x y : Dat) (R : Dat → Prop) : Prop := ∀ c σ H u v, Ok K c ρ σ H → Rep K (vw c w1 ρ σ H) u x → Rep K (vw c w1 ρ σ H) v y → ∀ Q : VK, (∀ z H2 d, Ok K c ρ σ H2 → Le c ρ σ H H2 → Rep K (vw c w2 ρ σ H2) z d → R d → Q z H2) → r σ u v H Q
section
variable {K : KB} {w w1 : Bool} {ρ : LS} {R : Dat → Prop} {ta tb : TE} {C : Addr} {fs gs : List (Str × Dat)} {x : Dat}
theorem g_opRS {r : R2S} (h : G K w ρ ta fun x => G K w ρ tb fun y => Op2S K w w ρ r x y R) : G K w ρ (tOpS r ta tb) R := fun c σ H o Q q =>
  h c σ H o _ fun u H1 x o1 l1 r1 h1 => h1 c σ H1 o1 _ fun v H2 y o2 l2 r2 h2 => h2 c σ H2 u v o2 (r1.mono l2.vw) r2 Q fun z H3 d o3 l3 r3 h3 => q z H3 d o3 ((l1.trans l2).trans l3) r3 h3
def IsObj (d : Dat) : Prop := ∃ C fs, d = .obj C fs
theorem IsObj.ref {F : PySem.W.Frag} {B : Hp} {v : V} {d : Dat} (h : IsObj d) (r : Rep F B v d) : ∃ a, v = .ref a := by
  obtain ⟨C, fs, rfl⟩ := h
  cases r
  exact ⟨_, rfl⟩
theorem o2_binX {S : List Dat → (Dat → Prop) → RX → Prop} (h : ∃ RE, S [.obj C fs, .obj C gs] (fun d => IsObj d ∧ R d) RE ∧ ∀ C fs, RE C fs → K.RE C fs ρ) : Op2S K false false ρ (rBinO C (spX K.F S) (WE K.E)) (.obj C fs) (.obj C gs) R := fun c σ H u v o r1 r2 Q q => by
  obtain ⟨RE, hS, kx⟩ := h
  cases r1 with
  | @obj a _ dx xs _ ha rf =>
  cases r2 with
  | @obj b _ dy ys _ hb rg =>
  exact ⟨a, dx, xs, b, dy, ys, rfl, rfl, vw_le a _ ha, vw_le b _ hb, _, [.obj C fs, .obj C gs], _, RE, o.trk (w := false), .cons (.obj ha rf) (.cons (.obj hb rg) .nil), hS, fun v H' d e rv rd => ⟨rd.1.ref rv, q _ H' _ (o.ex e) e.le rv rd.2⟩, fun C' dx' H' xs' fs' e hx rf' re => XOk.call o e hx rf' (kx C' fs' re)⟩
theorem o2_binF {E : L2.St → XK} {S : List Dat → (Dat → Prop) → Prop} (h : S [.obj C fs, .obj C gs] fun d => IsObj d ∧ R d) : Op2S K w w ρ (rBinO C (spF K.F S) E) (.obj C fs) (.obj C gs) R := fun c σ H u v o r1 r2 Q q => by
  cases r1 with
  | @obj a _ dx xs _ ha rf =>
  cases r2 with
  | @obj b _ dy ys _ hb rg =>
  exact ⟨a, dx, xs, b, dy, ys, rfl, rfl, vw_le a _ ha, vw_le b _ hb, _, [.obj C fs, .obj C gs], _, o.trk (w := w), .cons (.obj ha rf) (.cons (.obj hb rg) .nil), h, fun v H' d e rv rd => ⟨rd.1.ref rv, q _ H' _ (o.ex e) e.le rv rd.2⟩⟩
theorem o2_inX {S : List Dat → (Dat → Prop) → RX → Prop} (h : ∃ RE, S [.obj C fs, x] (fun d => ∃ b, d = .bl b ∧ R (.bl b)) RE ∧ ∀ C fs, RE C fs → K.RE C fs ρ) : Op2S K false false ρ (rInO C (spX K.F S) (WE K.E)) x (.obj C fs) R := fun c σ H u v o r1 r2 Q q => by
  obtain ⟨RE, hS, kx⟩ := h
  cases r2 with
  | @obj a _ dx xs _ ha rf =>
  refine ⟨a, dx, xs, rfl, vw_le a _ ha, _, [.obj C fs, x], _, RE, o.trk (w := false), .cons (.obj ha rf) (.cons r1 .nil), hS, fun v H' d e rv rd => ?_, fun C' dx' H' xs' fs' e hx rf' re => XOk.call o e hx rf' (kx C' fs' re)⟩
  obtain ⟨t, ed, rb⟩ := rd
  subst ed
  cases rv
  exact ⟨t, rfl, q _ H' _ (o.ex e) e.le (.bl t) rb⟩
theorem o2_inF {E : L2.St → XK} {S : List Dat → (Dat → Prop) → Prop} (h : S [.obj C fs, x] fun d => ∃ b, d = .bl b ∧ R (.bl b)) : Op2S K w w ρ (rInO C (spF K.F S) E) x (.obj C fs) R := fun c σ H u v o r1 r2 Q q => by
  cases r2 with
  | @obj a _ dx xs _ ha rf =>
  refine ⟨a, dx, xs, rfl, vw_le a _ ha, _, [.obj C fs, x], _, o.trk (w := w), .cons (.obj ha rf) (.cons r1 .nil), h, fun v H' d e rv rd => ?_⟩
  obtain ⟨t, ed, rb⟩ := rd
  subst ed
  cases rv
  exact ⟨t, rfl, q _ H' _ (o.ex e) e.le (.bl t) rb⟩
theorem o2_eqT {E : L2.St → XK} {ds : List Dat} {S : List Dat → (Dat → Prop) → Prop} (h : S [.obj C fs, .tup ds] fun d => ∃ b, d = .bl b ∧ R (.bl b)) : Op2S K w w ρ (rEqT K.F C (spF K.F S) E) (.obj C fs) (.tup ds) R := fun c σ H u v o r1 r2 Q q => by
  cases r1 with
  | @obj a _ dx xs _ ha rf =>
  cases r2 with
  | @tup b ys _ hb rg =>
  refine ⟨a, dx, xs, b, ys, rfl, rfl, vw_le a _ ha, ex_t vw_le hb, _, [.obj C fs, .tup ds], _, o.trk (w := w), .cons (.obj ha rf) (.cons (.tup hb rg) .nil), h, fun v H' d e rv rd => ?_⟩
  obtain ⟨t, ed, rb⟩ := rd
  subst ed
  cases rv
  exact ⟨t, rfl, q _ H' _ (o.ex e) e.le (.bl t) rb⟩
end
theorem passS0 {X : Cx} {E : L2.St → XK} : ∀ σ, PassesAt CX0 X σ (E σ) := fun _ _ _ _ _ _ _ h => h.elim
end BV

end

section
set_option maxHeartbeats 4000000
/-! repr of data. It asks that no repr is under way: defs that use it are kept apart (FnG: the surroundings are known to bear no guard). -/
namespace BV
open PySem PySem.Spec L2
open PyProof.Rows (envOfC)
/-- a def in surroundings without guards -/
structure FnG (P : Program) (w : World) (K : PySem.W.Frag) (mg : Str → Option Value) (base : Heap) (CX : CXT) (k : Nat) (f : Addr) (fd : FuncData) (ps : List Str) (sp : Sp) : Prop where
  len : ∀ vs H Q E, sp vs H Q E → vs.length = ps.length
  run : ∀ (A : Around) (outer : List Env) (s : Shared) (H : Hp) (args : Args) (us : List Value) (vs : List V) (Q : VK) (E : XK), A.guards = some [] → Room k A → Env0 P w K mg base A outer s H → BindsTo s fd args (ps.zip us) → Vals vs us → sp vs H Q E →
    codeAny (model P w) A (.call (.ref f) args) (CR CX outer P w H s Q E) s
theorem FnOk.guarded {P : Program} {w : World} {K : PySem.W.Frag} {mg : Str → Option Value} {base : Heap} {CX : CXT} {k : Nat} {f : Addr} {fd : FuncData} {ps : List Str} {sp : Sp} (F : FnOk P w K mg base CX k f fd ps sp) : FnG P w K mg base CX k f fd ps sp := ⟨F.len, fun A outer s H args us vs Q E _ => F.run A outer s H args us vs Q E⟩
section
variable {X : Cx} {CX : CXT} {k : Nat} {f : Addr} {fd : FuncData} {ps : List Str} {sp : Sp} {E : XK} {x : Str} {p pos : Pos} {e : Expr} {es : List Expr} {t : TA}
theorem pe_callG (hG : X.A.guards = some []) (F : FnG X.prog X.w X.K X.mg X.base CX k f fd ps sp) (hr : Room k X.A) (hg : Gl X x) (hm : X.mg x = some (.ref f)) (hk : PySem.W.keepIn X.K (.ref f) = true) (hb : Binds X.K fd ps []) (hx : Passes CX X E)
    (ha : PA X (e :: es) t) (hdb : (x == ("__debug__" : Str)) = false := by decide) (he : starEach (e :: es) X.env = (false, eval e X.env) :: starEach es X.env := by rfl) (hpl : (backTo pos (starEach es X.env)).any (·.1) = false := by rfl) :
    PE X (.Call (.Name x p) (e :: es) [] pos) (tCall sp [] E t) := by
  refine ⟨fun pins s σ H Q I h => ?_⟩
  refine wpAny_Call_Name_kw (ld_glob I hg hm ?_ hdb)
  refine PySem.W.callWith_K (h₀ := X.base) I.ok.mod.kin hk (thn (ha.run pos pins s σ H _ I h) fun us s1 ⟨vs, H1, I1, r, q⟩ => ⟨I1.kIn, ?_⟩) he hpl
  have q : sp (vs ++ []) H1 Q E := q
  rw [List.append_nil] at q
  have hl : (us ++ []).length = ps.length := by rw [List.append_nil, ← r.length]; exact F.len _ _ _ _ q
  have b := hb s1 us I1.kIn hl
  rw [List.append_nil] at b
  refine wpAny_call (codeAny_mono (F.run X.A X.stack s1 H1 ⟨us, []⟩ us vs Q E hG hr I1.env0 b r q) fun r s' hq => ?_)
  cases r with
  | error e => exact hx pins σ H1 s1 e s' I1 hq
  | ok fl =>
    cases fl with
    | ret u => exact I1.after hq
    | _ => exact False.elim hq
end
theorem spF_start {K : PySem.W.Frag} {N : List Str} {S : List Dat → (Dat → Prop) → Prop} {vs : List V} {H : Hp} {Q : VK} {E : XK} {t : TS} (h : spF K S vs H Q E)
    (run : ∀ ds R, S ds R → Run (KB.of K) (startS N ds) t (fun _ => R .non) (fun r _ => ∃ d, r = .d d ∧ R d) (fun _ => False) fun _ => False) : t { nx := fun _ H' => Q .non H', rt := Q } (L2.start N vs) H := by
  obtain ⟨Pp, ds, R, hp, r, hS, kq⟩ := h
  have nop : ∀ a, ¬ Pr (startS N ds) (L2.start N vs) a := fun a ⟨i, s', v', h1, h2, h3⟩ => by
    rcases start_get r h1 h2 with e | ⟨y, u, e, _⟩
    · rw [e] at h3; cases h3
    · rw [e] at h3; cases h3
  have o : Ok (KB.of K) ⟨Pp, fun _ => False, H⟩ (startS N ds) (L2.start N vs) H := by
    refine ⟨⟨start_len r.length, fun i s' v' h1 h2 => ?_, fun i j s1 v1 s2 v2 a g1 g2 g3 => absurd ⟨i, s1, v1, g1, g2, g3⟩ (nop a), fun a h => absurd h (nop a), fun _ _ _ h => h, fun a h => absurd h (nop a), hp⟩, .of⟩
    rcases start_get r h1 h2 with e | ⟨y, u, e, e2, ru⟩
    · rw [e]; trivial
    · rw [e, e2]
      refine ⟨u, rfl, ru.mono (hid_ex fun b ob hb e => ⟨fun z => ?_, e⟩)⟩
      rcases z with z | z
      · exact hb z
      · rw [if_neg Bool.false_ne_true] at z; exact nop b z
  refine run ds R hS _ _ ⟨fun ρ' σ' H' o' n => ?_, fun ρ' σ' H' v d o' rv rd => ?_, fun ρ' σ' H' a s' o' hx rs hpa rd => ?_, fun _ _ _ _ z => z.elim, fun _ _ _ _ z => z.elim⟩ _ _ o
  · exact kq .non H' .non (fun b ob e => o'.fr b ob (fun z => z) e) .non n
  · obtain ⟨d', e, rd⟩ := rd
    cases e
    exact kq v H' d (fun b ob e => o'.fr b ob (fun z => z) e) (rv.mono (hid_ex fun b ob hb e => ⟨fun z => hb (.inl z), e⟩)) rd
  · obtain ⟨d', e, rd⟩ := rd
    cases e
section
variable {K : PySem.W.Frag} {P : Program} {wd : World} {mg : Str → Option Value} {base : Heap} {x qual : Str} {st : Stmt} {f : Addr} {fd : FuncData} {N ps : List Str} {k : Nat} {sp : Sp}
theorem Fun.okG (F : Fun K x qual st f fd) (S : FnScope N ps (defScope st)) (len : ∀ vs H Q E, sp vs H Q E → vs.length = ps.length)
    (hbody : ∀ (cdv : Value) (A : Around) (outer : List Env) (s : Shared) (H : Hp) (vs : List V) (Q : VK) (E : XK), A.guards = some [] → Room k (A.deeper (envOfC qual (defScope st) s.heap.objs.size f cdv)) → sp vs H Q E →
      ∃ t, PSs (cxOf CX0 P wd K mg base N qual (defScope st) f cdv A outer s H E).nox (defBody st) t ∧ t { nx := fun _ H' => Q .non H', rt := Q } (L2.start N vs) H) : FnG P wd K mg base CX0 (k + 1) f fd ps sp := by
  obtain ⟨oc, od, kV, doc, pm, an, cdv, ct, osl, rfl, lk, hcd⟩ := F.ex
  refine ⟨len, fun A outer s H args us vs Q E hG hr e0 hb r hsp => ?_⟩
  have hl := len _ _ _ _ hsp
  have kk : ∀ b o, base.get? b = some o → s.heap.get? b = some o := fun b o e => (e0.bs b o e).1
  have KX : K.In s.heap := e0.mod.kin.keeps kk
  refine codeAny_call_function hr.depth (KX _ _ lk) rfl S.co S.gen rfl (PySem.W.codeRec_of KX hcd) (hb _ _ _ _ ?_)
  refine wpAny_newFunctionEnv_cells S.kind (fun ⟨n, v⟩ hy => ?_) fun env he s1 x => ?_
  · rcases S.par n (List.of_mem_zip hy).1 with q | q
    · exact .inl q
    · exact .inr ⟨q, PySem.W.cellsFrom_some _ _ _ (.inl q)⟩
  subst he
  refine ⟨(e0.mod.nolimit.keeps kk).keeps x.toInCall.keep, codeAny_func ?_⟩
  obtain ⟨t, ht, hq⟩ := hbody cdv A outer s H vs Q E hG (hr.deeper _) hsp
  have I : Inv (cxOf CX0 P wd K mg base N qual (defScope st) f cdv A outer s H E) [] (L2.start N vs) H s1 := inv_start S hr.hd e0 hl r x
  refine wpAny_mono (ht.nox.run [] s1 (L2.start N vs) H _ I hq) (fun fl s' hs => ?_) fun e s' hs => hs
  have fin : ∀ {σ' : L2.St} {H' : Hp} {v : V} {u : Value}, Inv (cxOf CX0 P wd K mg base N qual (defScope st) f cdv A outer s H E) [] σ' H' s' → RelV v u → Q v H' → CE outer P wd H s Q u s' :=
    fun {σ' H' v u} J rv q => ⟨v, H', J.os, J.bare, J.base, J.hok, rv, q⟩
  cases fl with
  | ret u =>
    obtain ⟨v, σ', H', J, rv, q⟩ := hs
    exact fin J rv q
  | next =>
    obtain ⟨σ', H', J, q⟩ := hs
    exact fin (v := V.non) (u := Value.none) J rfl q
  | _ =>
    obtain ⟨_, _, _, q⟩ := hs
    exact False.elim q
theorem okG {S : List Dat → (Dat → Prop) → Prop} (F : Fun K x qual st f fd) (sc : FnScope N ps (defScope st)) (len : ∀ ds R, S ds R → ds.length = ps.length)
    (hb : ∀ (cdv : Value) (A : Around) (outer : List Env) (s : Shared) (H : Hp) (E : XK), A.guards = some [] → Room k (A.deeper (envOfC qual (defScope st) s.heap.objs.size f cdv)) →
      ∃ t, PSs (cxOf CX0 P wd K mg base N qual (defScope st) f cdv A outer s H E).nox (defBody st) t ∧ ∀ ds R, S ds R → Run (KB.of K) (startS N ds) t (fun _ => R .non) (fun r _ => ∃ d, r = .d d ∧ R d) (fun _ => False) fun _ => False) :
    FnG P wd K mg base CX0 (k + 1) f fd ps (spF K S) := by
  refine Fun.okG F sc (fun vs H Q E h => ?_) fun cdv A outer s H vs Q E hG hr h => ?_
  · obtain ⟨P, ds, R, _, r, hS, _⟩ := h
    rw [r.length]
    exact len ds R hS
  · obtain ⟨t, ht, run⟩ := hb cdv A outer s H E hG hr
    exact ⟨t, ht, spF_start h run⟩
end
/-! ### repr -/
def rReprD (K : PySem.W.Frag) : List V → Hp → VK → Prop := fun xs H Q => ∃ (v : V) (d : PyData), xs = [v] ∧ Dp K H v d ∧ d.showable = true ∧ d.hasDict = false ∧ d.depth ≤ 60 ∧ d.shown.length ≤ sizeLine ∧ Q (.str d.shown) H
theorem call_reprD {X : Cx} (hG : X.A.guards = some []) (hu : X.A.units + 65 < cLine) : CallR X (.builtin "repr") (rReprD X.K) := by
  intro pins s σ H xs us Q I r h
  obtain ⟨v, d, rfl, dp, hs, hd, hz, hl, q⟩ := h
  cases dp with
  | non =>
    obtain ⟨u, rfl, t⟩ := vals1 r
    cases (show u = Value.none from t)
    exact PySem.P.repr_of_none ⟨.str _, H, I.tok _, ⟨_, rfl⟩, q⟩
  | bl b =>
    obtain ⟨u, rfl, t⟩ := vals1 r
    cases (show u = Value.bool b from t)
    exact PySem.P.repr_of_bool ⟨.str _, H, I.tok _, ⟨_, rfl⟩, q⟩
  | int i =>
    obtain ⟨u, rfl, t, rfl⟩ := vals1 r
    exact PySem.P.repr_of_int (by simpa [PyData.showable] using hs) ⟨.str _, H, I.tok _, ⟨_, rfl⟩, q⟩
  | str z =>
    obtain ⟨u, rfl, t, rfl⟩ := vals1 r
    exact PySem.P.repr_of_str ⟨.str _, H, I.tok _, ⟨_, rfl⟩, q⟩ hl
  | @lst a xs ds h1 h2 =>
    obtain ⟨u, rfl, t⟩ := vals1 r
    obtain rfl : u = Value.ref a := t
    obtain ⟨as, rd⟩ := Dp.reads I _ _ _ (.lst h1 h2) (show RelV (.ref a) (.ref a) from rfl)
    exact PySem.repr_of_reads' rd hs (PyData.noDict_hsm hd) hG (by omega) (fun _ _ e => e) (fun h' u tk k => ⟨.str _, H, I.kept k, ⟨_, rfl⟩, q⟩) hl
  | @tup a xs ds h1 h2 =>
    obtain ⟨u, rfl, t⟩ := vals1 r
    obtain rfl : u = Value.ref a := t
    obtain ⟨as, rd⟩ := Dp.reads I _ _ _ (.tup h1 h2) (show RelV (.ref a) (.ref a) from rfl)
    exact PySem.repr_of_reads' rd hs (PyData.noDict_hsm hd) hG (by omega) (fun _ _ e => e) (fun h' u tk k => ⟨.str _, H, I.kept k, ⟨_, rfl⟩, q⟩) hl
end BV

end

section
set_option maxHeartbeats 4000000
/-! the law itself in surroundings without guards; repr by data -/
namespace BV
open PySem PySem.Spec L2
section
open PyProof.Rows
variable {P : Program} {w : World} {K : PySem.W.Frag} {mg mb : Str → Option Value} {k : Nat} {fa a : Addr} {fd : FuncData} {x : Str} {sp : Sp} {s₁ : Shared} {vs : List Value} {ns : List Int}
/-- the call at a heap of which nothing is tracked but, perhaps, the script -/
theorem callG0 {H : Hp} (hr : Room k callerA) (KX : K.In s₁.heap) (hns : s₁.heap.Ns mainGlobals mg) (hb : s₁.heap.Ns builtinsNs mb) (hbb : ∀ x : Str, x ≠ "__name__" → mb x = bootBuiltins x) (hlim : s₁.heap.NoLimit) (hg : s₁.gens = #[])
    (F : ∀ base : Heap, K.In base → base.Ns mainGlobals mg → FnG P w K mg base CX0 k fa fd [x] sp) (hbind : ∀ (s : Shared) (u : Value), BindsTo s fd ⟨[u], []⟩ [(x, u)])
    (hO : Only H) (hok : HOk P w H s₁.heap) (hA : ∀ b o, H b ≠ none → s₁.heap.get? b = some o → o.cls = .type "list") (hK : ∀ b, H b ≠ none → K.lookup b = none) (hd : ∀ b o es ep, H b ≠ none → s₁.heap.get? b = some o → o.data ≠ .dict es ep)
    (hsp : sp [.ref a] H (fun v _ => v = .bl true) fun _ _ _ => False) :
    codeAny (model P w) callerA (.call (.ref fa) ⟨[.ref a], []⟩) (fun r s' => r = .ok (.ret (.bool true)) ∧ OldK s₁.heap s'.heap ∧ s'.os = s₁.os ∧ AllBare s'.gens) s₁ := by
  have free : ∀ {b : Addr} {o : Obj}, s₁.heap.get? b = some o → (H b ≠ none → False) → (hidT s₁.heap H).get? b = some o := fun {b o} e n => hidT_get e (Classical.byContradiction n)
  have nsK : ∀ {b : Addr} {m : Str → Option Value}, s₁.heap.Ns b m → (hidT s₁.heap H).Ns b m := fun {b m} ⟨o, es, ep, e, d, r⟩ => ⟨o, es, ep, free e fun n => hd b o es ep n e d, d, r⟩
  have hKb : K.In (hidT s₁.heap H) := fun b o e => free (KX b o e) fun n => by rw [hK b n] at e; cases e
  have e0 : Env0 P w K mg (hidT s₁.heap H) callerA [] s₁ H :=
    ⟨rfl, ⟨hKb, nsK hns, ⟨mb, nsK hb, hbb⟩, let ⟨mc, h1, h2⟩ := hlim; ⟨mc, nsK h1, h2⟩⟩, fun b o e => of_hidT e, Nat.le_of_eq (hidT_size _ _), trivial, fun b hb => absurd (show b ∈ ([] : List Addr) from hb) (by simp), hok, .of_eq hg⟩
  refine codeAny_mono ((F _ hKb (nsK hns)).run callerA [] s₁ H ⟨[.ref a], []⟩ [.ref a] [.ref a] _ _ rfl hr e0 (hbind s₁ (.ref a)) (.cons rfl .nil) hsp) fun r s' h => ?_
  cases r with
  | error e => exact False.elim h
  | ok fl =>
    cases fl with
    | ret u =>
      obtain ⟨v, H', os, bare, un, hok', r', q⟩ := h
      have q' : v = .bl true := q
      subst q'
      obtain rfl : u = Value.bool true := r'
      refine ⟨rfl, OldK.of_keep fun b o e => ?_, os, bare⟩
      rcases hO b with z | ⟨ob, xs, z⟩
      · exact un.keep b o e z (by intro z; exact absurd (show b ∈ ([] : List Addr) from z) (by simp)) (by simp)
      · obtain ⟨e1, _⟩ := hok b _ z
        obtain ⟨e2, _⟩ := hok' b _ (un.frzs b ob _ z)
        rw [e] at e1; cases e1
        exact e2
    | _ => exact False.elim h
theorem law_callG (KX : K.In s₁.heap) (hns : s₁.heap.Ns mainGlobals mg) (hb : s₁.heap.Ns builtinsNs mb) (hbb : ∀ x : Str, x ≠ "__name__" → mb x = bootBuiltins x) (hlim : s₁.heap.NoLimit) (hg : s₁.gens = #[])
    (ha : s₁.heap.get? a = some { cls := .type "list", data := .seq vs.toArray }) (hi : IntsAre vs ns) (hl : ns.length ≤ sizeLine) (hr : Room k callerA)
    (F : ∀ base : Heap, K.In base → base.Ns mainGlobals mg → FnG P w K mg base CX0 k fa fd [x] sp) (hbind : ∀ (s : Shared) (u : Value), BindsTo s fd ⟨[u], []⟩ [(x, u)])
    (hsp : ∀ H : Hp, Only H → SqL K H a (ns.map V.int) → sp [.ref a] H (fun v _ => v = .bl true) fun _ _ _ => False) :
    codeAny (model P w) callerA (.call (.ref fa) ⟨[.ref a], []⟩) (fun r s' => r = .ok (.ret (.bool true)) ∧ OldK s₁.heap s'.heap ∧ s'.os = s₁.os ∧ AllBare s'.gens) s₁ := by
  have rv := vals_ints hi
  have lenV := hi.length
  cases hk : K.lookup a with
  | some o =>
    have e := KX a o hk
    rw [ha] at e
    cases e
    have hO : Only (fun _ => none) := fun _ => .inl rfl
    have hS : SqL K (fun _ => none) a (ns.map V.int) := .inr ⟨_, vs.toArray, _, hk, rfl, rfl, rfl, by rw [List.size_toArray, lenV]; exact hl, by simpa using rv⟩
    exact callG0 hr KX hns hb hbb hlim hg F hbind hO (fun b u z => by have z' : (none : Option HO) = some u := z; cases z') (fun b o z _ => absurd rfl z) (fun b z => absurd rfl z) (fun b o es ep z _ => absurd rfl z) (hsp _ hO hS)
  | none =>
    let H : Hp := fun b => if b = a then some (.frz { cls := .type "list", data := .seq vs.toArray } (.lst (ns.map V.int))) else none
    have hHa : H a = some (.frz { cls := .type "list", data := .seq vs.toArray } (.lst (ns.map V.int))) := if_pos rfl
    have only : ∀ b, H b ≠ none → b = a := fun b z => by
      by_cases hb : b = a
      · exact hb
      · exact absurd (if_neg hb) z
    have hO : Only H := fun b => by
      by_cases hb : b = a
      · subst hb; exact .inr ⟨_, _, hHa⟩
      · exact .inl (if_neg hb)
    have hS : SqL K H a (ns.map V.int) := .inl (.inr ⟨_, hHa⟩)
    refine callG0 hr KX hns hb hbb hlim hg F hbind hO (fun b u z => ?_) (fun b o z e => ?_) (fun b z => ?_) (fun b o es ep z e d => ?_) (hsp _ hO hS)
    · have eb := only b (by rw [z]; simp)
      subst eb
      rw [hHa] at z
      cases z
      exact ⟨ha, by rw [List.length_map]; exact hl, vs, _, rv, ha⟩
    · have eb := only b z
      subst eb
      rw [ha] at e; cases e; rfl
    · rw [only b z]; exact hk
    · have eb := only b z
      subst eb
      rw [ha] at e; cases e
      have d' : Data.seq vs.toArray _ = Data.dict es ep := d
      cases d'
end
theorem walk_ofG {l : PySem.W.OpenLaw} {n k : Nat} {q : Program} {loose : List Str} {XP : (Str → Option Value) → Heap → Prop} {YP : World → Heap → Prop} {d : DefRec} {K : Params → PySem.W.Frag} {sp : World → Sp} {x : Str}
    (hn : l.most = some n) (hn2 : n ≤ sizeLine) (hdf : d.params.defaults = []) (hr : Room k callerA)
    (hY : ∀ (w : World) (h : Heap), YP w h → (K w.params).In h)
    (F : ∀ (w : World) (mg : Str → Option Value) (fa : Addr) (h : Heap), (K w.params).In h → h.Ns mainGlobals mg → mg d.name = some (.ref fa) →
      ∃ fd : FuncData, (∀ (s : Shared) (u : Value), BindsTo s fd ⟨[u], []⟩ [(x, u)]) ∧ ∀ base : Heap, (K w.params).In base → base.Ns mainGlobals mg → FnG l.prog w (K w.params) mg base CX0 k fa fd [x] (sp w))
    (hsp : ∀ (w : World) (H : Hp) (a : Addr) (ns : List Int), ns.length ≤ n → (∀ z ∈ ns, Builtin.Int.intBits z ≤ 1048576) → Only H → SqL (K w.params) H a (ns.map V.int) → sp w [.ref a] H (fun v _ => v = .bl true) fun _ _ _ => False) :
    PySem.W.WalkO q loose XP YP l.row.toRowW d [] (fun f vs => PySem.call f vs) := by
  refine Att.attach_callB hn hdf fun w s₀ s₁ mg mb fa o pm cd doc a vs ns G Y ho hd hcd hmg hobj hints hlen hbits hg => ?_
  have KX := hY w _ Y
  obtain ⟨fd, hb, hF⟩ := F w mg fa _ KX G.T.g hmg
  exact law_callG KX G.T.g G.T.b G.T.builtins G.T.nolimit hg hobj hints (Nat.le_trans hlen hn2) hr hF hb fun H hO hS => hsp w H a ns hlen hbits hO hS
/-! ### repr by data -/
mutual
theorem toP_noDict : ∀ d : Dat, (toP d).hasDict = false
  | .tup ds => by unfold toP; simp only [PyData.hasDict]; exact toPs_noDict ds
  | .lst ds => by unfold toP; simp only [PyData.hasDict]; exact toPs_noDict ds
  | .non => rfl
  | .bl _ => rfl
  | .int _ => rfl
  | .str _ => rfl
  | .scr _ => rfl
  | .dk _ => rfl
  | .dt _ => rfl
  | .fk _ => rfl
  | .obj _ _ => rfl
  | .oth _ => rfl
theorem toPs_noDict : ∀ ds : List Dat, PyData.hasDictAll (toPs ds) = false
  | [] => rfl
  | d :: ds => by unfold toPs; simp only [PyData.hasDictAll]; rw [toP_noDict d, toPs_noDict ds]; rfl
end
/-- what repr says -/
def shows (d : Dat) : List Nat := (toP d).shown.cps.toList
structure Shw (d : Dat) : Prop where
  pl : pln d = true
  sh : (toP d).showable = true
  dp : (toP d).depth ≤ 60
  ln : (toP d).shown.length ≤ sizeLine
section
variable {K : KB} {w w1 : Bool} {ρ : LS} {R : Dat → Prop}
theorem oc_reprD {d : Dat} (h : Shw d) (k : R (.str (shows d))) : OpC K w1 w ρ (rReprD K.F) [d] R := fun c σ H us o r Q q => by
  cases r with
  | cons r1 r2 =>
  cases r2
  exact ⟨_, toP d, rfl, Dp.monoL vw_le _ _ (dp_of _ _ r1 h.pl), h.sh, toP_noDict d, h.dp, h.ln, q _ H _ o .refl (rep_str _) k⟩
end
mutual
/-- data whose repr is short: ints below 10^50 -/
def nice : Dat → Bool
  | .non => true
  | .bl _ => true
  | .int i => decide (i.natAbs < 10 ^ 50)
  | .str w => w.all fun c => decide (c < 16 ^ 8)
  | .tup ds => niceL ds
  | .lst ds => niceL ds
  | _ => false
def niceL : List Dat → Bool
  | [] => true
  | d :: ds => nice d && niceL ds
end
mutual
theorem nice_pln : ∀ d : Dat, nice d = true → pln d = true
  | .tup ds, h => by unfold nice at h; unfold pln; exact niceL_pln ds h
  | .lst ds, h => by unfold nice at h; unfold pln; exact niceL_pln ds h
  | .non, _ => rfl
  | .bl _, _ => rfl
  | .int _, _ => rfl
  | .str _, _ => rfl
theorem niceL_pln : ∀ ds : List Dat, niceL ds = true → plnL ds = true
  | [], _ => rfl
  | d :: ds, h => by unfold niceL at h; unfold plnL; rw [Bool.and_eq_true] at h ⊢; exact ⟨nice_pln d h.1, niceL_pln ds h.2⟩
end
mutual
theorem nice_show : ∀ d : Dat, nice d = true → (toP d).showable = true ∧ (toP d).leavesShort 60 = true
  | .tup ds, h => by unfold nice at h; unfold toP; simp only [PyData.showable, PyData.leavesShort]; exact niceL_show ds h
  | .lst ds, h => by unfold nice at h; unfold toP; simp only [PyData.showable, PyData.leavesShort]; exact niceL_show ds h
  | .non, _ => ⟨rfl, rfl⟩
  | .bl _, _ => ⟨rfl, rfl⟩
  | .int i, h => by
    unfold nice at h
    have h' : i.natAbs < 10 ^ 50 := by simpa using h
    unfold toP
    simp only [PyData.showable, PyData.leavesShort, decide_eq_true_eq]
    refine ⟨?_, ?_⟩
    · by_cases z : i.natAbs = 0
      · rw [z]; decide
      · have p1 : (10 : Nat) ^ 50 ≤ 2 ^ 200 := by decide
        have p2 : (2 : Nat) ^ 200 ≤ 2 ^ 1920 := Nat.pow_le_pow_right (by decide) (by decide)
        have : i.natAbs < 2 ^ 1920 := Nat.lt_of_lt_of_le h' (Nat.le_trans p1 p2)
        exact (Nat.log2_lt z).mpr this
    · have := int_text_length_le10 (a := i) (k := 50) (by decide) h'
      show (Str.ofString (toString i)).length ≤ 60
      rw [ofString_length]
      omega
  | .str w, h => by
    unfold nice at h
    unfold toP
    simp only [PyData.showable, PyData.leavesShort]
    exact ⟨trivial, h⟩
theorem niceL_show : ∀ ds : List Dat, niceL ds = true → PyData.showableAll (toPs ds) = true ∧ PyData.leavesShortAll 60 (toPs ds) = true
  | [], _ => ⟨rfl, rfl⟩
  | d :: ds, h => by
    unfold niceL at h
    rw [Bool.and_eq_true] at h
    unfold toPs
    simp only [PyData.showableAll, PyData.leavesShortAll]
    obtain ⟨a1, a2⟩ := nice_show d h.1
    obtain ⟨b1, b2⟩ := niceL_show ds h.2
    exact ⟨by rw [a1, b1]; rfl, by rw [a2, b2]; rfl⟩
end
theorem shw_of {d : Dat} (h : nice d = true) (hd : (toP d).depth ≤ 60) (hw : (toP d).weight ≤ 100000) : Shw d := by
  obtain ⟨h1, h2⟩ := nice_show d h
  refine ⟨nice_pln d h, h1, hd, ?_⟩
  have := PyData.shown_le 60 (by decide) (toP d) h2
  rw [sizeLine_eq]
  omega
end BV

end

section
set_option maxHeartbeats 4000000
/-! isinstance of an own class, subscripts of lists or tuples, list(range), gcd -/
namespace BV
open PySem PySem.Spec L2
theorem fnR_ofX {K : PySem.W.Frag} {P : Program} {wd : World} {mg : Str → Option Value} {base : Heap} {CX : CXT} {k : Nat} {f : Addr} {fd : FuncData} {ps : List Str} {sp : Sp} (F : FnOk P wd K mg base CX k f fd ps sp) (b : Binds K fd ps []) : FnR P wd K mg base CX k f sp :=
  (F.raw b .nil).imp fun vs H Q E h => by rw [List.append_nil]; exact h
theorem units2 {k : Nat} {A : Around} (r : Room k A) : A.units < cLine := by have := r.un; omega
theorem kReprD {X : Cx} (K : PySem.W.Frag) (h : X.K = K) (hG : X.A.guards = some []) (hu : X.A.units + 65 < cLine) : CallR X (.builtin "repr") (rReprD K) := by
  subst h
  exact call_reprD hG hu
theorem funS_mk {K : PySem.W.Frag} {x qual : Str} {st : Stmt} {f cc cda : Addr} {oc : Value} {od an : Option Addr} {osl : Array (Option Value)} {kV doc pm ct : Value} (l : K.lookup f = some ⟨oc, od, .func (PySem.W.fnX x qual (defArgs st) (defBody st) (defScope st) [("__class__", cc)] .none kV doc pm an (.ref cda) ct), osl⟩)
    (e : PySem.W.codeIn K (.ref cda) qual = true) : FunS K x qual st f cc cda (PySem.W.fnX x qual (defArgs st) (defBody st) (defScope st) [("__class__", cc)] .none kV doc pm an (.ref cda) ct) :=
  ⟨_, _, _, _, _, _, _, _, rfl, l, e⟩
theorem FunS.binds {K : PySem.W.Frag} {x qual : Str} {st : Stmt} {f cc cda : Addr} {fd : FuncData} {ps : List Str} (F : FunS K x qual st f cc cda fd)
    (h : ∀ (kV doc pm : Value) (an : Option Addr) (ct : Value) (us : List Value), us.length = ps.length → bindArgs (PySem.W.fnX x qual (defArgs st) (defBody st) (defScope st) [("__class__", cc)] .none kV doc pm an (.ref cda) ct) ⟨us, []⟩ = pure (ps.zip us)) : Binds K fd ps [] := by
  obtain ⟨oc, od, kV, doc, pm, an, ct, osl, rfl, lk, hcd⟩ := F.ex
  exact .all (h kV doc pm an ct)
/-- an own class whose instances isinstance knows -/
structure IsC (K : PySem.W.Frag) (C : Addr) : Prop where
  ha : PySem.W.findIn K (.ref C) "__class__" = some (some (.builtin "object.__class__"))
  hn : PySem.W.specialIn K (.builtin "object.__class__") "__get__" = some (some (.builtin "getset_descriptor.__get__"))
  htk : PySem.W.takesIn K (.builtin "object.__class__") = some true
  hm : PySem.W.mroIn K C (.type "object") = some true
section
variable {K : KB} {w w1 : Bool} {ρ : LS} {R : Dat → Prop} {t : TA} {ta tb : TE}
theorem oc_isiO {C : Addr} {fs : List (Str × Dat)} (cl : Cls K.F C) (ic : IsC K.F C) (k : R (.bl true)) : OpC K w1 w ρ (rIsi K.F) [.obj C fs, .oth (.ref C)] R := fun c σ H us o r Q q => by
  cases r with
  | cons r1 r2 =>
  cases r2 with
  | cons r2 r3 =>
  cases r3
  cases r2
  cases r1 with
  | @obj a _ dx xs _ ha rf =>
  exact ⟨_, .ref C, .ref C, .ref C, true, rfl, .own C, .base (.ins (vw_le a _ ha) cl ic.ha ic.hn ic.htk ic.hm), by unfold PySem.W.kitOne; simp, q _ H _ o .refl (.bl true) k⟩
theorem oc_isiN {x : Dat} {C : Addr} {b : Bool} (hb : bas x = true) (hk : PySem.W.kitOne K.F (.type (tyN x)) (.ref C) = some b) (k : R (.bl b)) : OpC K w1 w ρ (rIsi K.F) [x, .oth (.ref C)] R := fun c σ H us o r Q q => by
  cases r with
  | cons r1 r2 =>
  cases r2 with
  | cons r2 r3 =>
  cases r3
  cases r2
  exact ⟨_, .ref C, _, .ref C, b, rfl, .own C, TyX.mono vw_le (tyX r1 hb), hk, q _ H _ o .refl (.bl _) k⟩
theorem oc_repr_int {i : Int} (h : i.natAbs.log2 < 1920) (k : R (.str (sW (toString i)))) : OpC K w1 w ρ rRepr [.int i] R := fun c σ H us o r Q q => by
  cases r with
  | cons r1 r2 =>
  cases r2
  cases r1
  exact .inr (.inr (.inr ⟨i, rfl, h, q _ H _ o .refl (rep_str _) k⟩))
theorem oc_gcd {a b : Int} (k : R (.int ((Nat.gcd a.natAbs b.natAbs : Nat) : Int))) : OpC K w1 w ρ rGcd [.int a, .int b] R := fun c σ H us o r Q q => by
  cases r with
  | cons r1 r2 =>
  cases r2 with
  | cons r2 r3 =>
  cases r3
  cases r1
  cases r2
  exact ⟨a, b, rfl, q _ H _ o .refl (.int _) k⟩
/-! subscripts of what is a list or a tuple -/
def rIxQ (K : PySem.W.Frag) : R2 := fun x y H Q => rIxL K x y H Q ∨ rIxT K x y H Q
theorem kIxQ {X : Cx} (K : PySem.W.Frag) (h : X.K = K) : IxR X (rIxQ K) := by
  subst h
  intro value slice pins s σ H x y v u Q I rx ry hh hs
  rcases hh with hh | hh
  · exact ix_list value slice pins s σ H x y v u Q I rx ry hh hs
  · exact ix_tup value slice pins s σ H x y v u Q I rx ry hh hs
theorem g_ixQ (h : G K w ρ ta fun x => G K w ρ tb fun y => Op2 K w w ρ (rIxQ K.F) x y R) : G K w ρ (tOp (rIxQ K.F) ta tb) R := g_opS h
theorem o2_ixQL {ds : List Dat} {i : Int} {d : Dat} (h : atI ds i = some d) (k : R d) : Op2 K w w ρ (rIxQ K.F) (.lst ds) (.int i) R := fun c σ H u v o r1 r2 Q q => .inl (o2_ixL h k c σ H u v o r1 r2 Q q)
theorem o2_ixQT {ds : List Dat} {i : Int} {d : Dat} (h : atI ds i = some d) (k : R d) : Op2 K w w ρ (rIxQ K.F) (.tup ds) (.int i) R := fun c σ H u v o r1 r2 Q q => .inr (o2_ixT h k c σ H u v o r1 r2 Q q)
/-! list(range(..)) -/
theorem rgV_rep {F : PySem.W.Frag} {B : Hp} (a b : Int) : RepL F B (rgV a b) (rngI a (b - a).toNat) := by
  unfold rgV rngI
  generalize List.range (b - a).toNat = l
  induction l with
  | nil => exact .nil
  | cons i l ih => exact .cons (.int _) ih
def GR (K : KB) (w : Bool) (ρ : LS) (t : L2.St → Hp → (Int → Int → Hp → Prop) → Prop) (R : Int → Int → Prop) : Prop := ∀ c σ H, Ok K c ρ σ H → ∀ Q : Int → Int → Hp → Prop, (∀ a b H2, Ok K c ρ σ H2 → Le c ρ σ H H2 → R a b → Q a b H2) → t σ H Q
theorem gr_1 {RR : Int → Int → Prop} (h : G K w ρ ta fun x => ∃ n, x = .int n ∧ RR 0 n) : GR K w ρ (tRg1 ta) RR := fun c σ H o Q q =>
  h c σ H o _ fun u H1 x o1 l1 r1 ⟨n, e, k⟩ => by
    subst e
    cases r1
    exact ⟨n, rfl, q 0 n H1 o1 l1 k⟩
theorem gr_2 {RR : Int → Int → Prop} (h : G K w ρ ta fun x => ∃ i, x = .int i ∧ G K w ρ tb fun y => ∃ j, y = .int j ∧ RR i j) : GR K w ρ (tRg2 ta tb) RR := fun c σ H o Q q =>
  h c σ H o _ fun u H1 x o1 l1 r1 ⟨i, e, h1⟩ => by
    subst e
    cases r1
    refine h1 c σ H1 o1 _ fun v H2 y o2 l2 r2 ⟨j, e, k⟩ => ?_
    subst e
    cases r2
    exact ⟨i, j, rfl, rfl, q i j H2 o2 (l1.trans l2) k⟩
theorem gn_lrg {t : L2.St → Hp → (Int → Int → Hp → Prop) → Prop} {RS : Slot → Prop} (h : GR K false ρ t fun a b => RgOk a b ∧ RS (.own (rngI a (b - a).toNat))) : GN K ρ (tLstRg t) RS := fun c σ H o Q q =>
  h c σ H o _ fun a b H1 o1 l1 h1 => ⟨h1.1, fun p hp => by
    have hp0 : H p = none := by
      cases e : H p with
      | none => rfl
      | some ob =>
        have nv := o1.vis (w := false) hp
        rw [l1 p ob (fun z => nv (.inr (by rw [if_neg Bool.false_ne_true]; exact z.pr))) e] at hp
        cases hp
    exact q p _ (.own _) (o1.ex (Ex.new hp)) (l1.trans (Ex.new hp).le) hp0 ⟨p, _, rfl, upd_same, rgV_rep a b⟩ rfl h1.2⟩
theorem g_lrg {t : L2.St → Hp → (Int → Int → Hp → Prop) → Prop} (h : GR K false ρ t fun a b => RgOk a b ∧ R (.lst (rngI a (b - a).toNat))) : G K w ρ (tLstRg t) R :=
  g_new (gn_lrg fun c σ H o Q q => h c σ H o Q fun a b H2 o2 l ⟨k1, k2⟩ => q a b H2 o2 l ⟨k1, _, rfl, k2⟩)
end
end BV

end

section
set_option maxHeartbeats 4000000
/-! rows of numbers and of truths as data -/
namespace BV
open PySem PySem.Spec L2
abbrev natD (n : Nat) : Dat := .int (n : Int)
@[reducible] def natsD (l : List Nat) : Dat := .tup (l.map natD)
@[reducible] def blsD (T : List Bool) : Dat := .lst (T.map .bl)
theorem natD_map (l : List Nat) : l.map natD = (l.map fun n : Nat => (n : Int)).map Dat.int := by rw [List.map_map]; rfl
section
variable {K : KB} {w w1 : Bool} {ρ : LS} {R : Dat → Prop}
theorem inV_ints (z : Int) : ∀ ns : List Int, inV (.int z) (ns.map V.int) = ns.contains z
  | [] => rfl
  | n :: ns => by
    have ih := inV_ints z ns
    unfold inV at ih ⊢
    rw [List.map_cons, List.any_cons, ih, List.contains_cons]
    congr 1
    show (n == z) = (z == n)
    by_cases h : n = z
    · subst h; rfl
    · rw [beq_false_of_ne h, beq_false_of_ne (Ne.symm h)]
theorem all_flat : ∀ ns : List Int, (ns.map V.int).all flatV = true
  | [] => rfl
  | n :: ns => by rw [List.map_cons, List.all_cons, all_flat ns]; rfl
theorem contains_cast (k : Nat) : ∀ l : List Nat, (l.map fun n : Nat => (n : Int)).contains (k : Int) = l.contains k
  | [] => rfl
  | n :: l => by
    rw [List.map_cons, List.contains_cons, List.contains_cons, contains_cast k l]
    congr 1
    rw [Bool.eq_iff_iff]
    simp only [beq_iff_eq]
    exact Int.ofNat_inj
theorem o2_inZ {z : Int} {ns : List Int} (k : R (.bl (ns.contains z))) : Op2 K w1 w ρ (rIn K.F false) (.int z) (.tup (ns.map Dat.int)) R := fun c σ H u v o r1 r2 Q q => by
  cases r1
  cases r2 with
  | @tup b ys _ hb rg =>
  have e := rg.ints
  subst e
  refine ⟨b, _, rfl, .inr (ex_t vw_le hb), rfl, all_flat ns, ?_⟩
  rw [if_neg Bool.false_ne_true, inV_ints]
  exact q _ H _ o .refl (.bl _) k
theorem o2_inN {k : Nat} {l : List Nat} (h : R (.bl (l.contains k))) : Op2 K w1 w ρ (rIn K.F false) (.int (k : Int)) (.tup (l.map natD)) R := by
  rw [natD_map]
  exact o2_inZ (by rw [contains_cast]; exact h)
end
theorem toPs_nats (l : List Nat) : toPs (l.map natD) = l.map fun n : Nat => PyData.int (n : Int) := toPs_map _ _
theorem toPs_bls (T : List Bool) : toPs (T.map Dat.bl) = T.map PyData.bool := toPs_map _ _
theorem plnL_nats : ∀ l : List Nat, plnL (l.map natD) = true
  | [] => rfl
  | n :: l => by rw [List.map_cons]; unfold plnL; rw [plnL_nats l]; rfl
theorem plnL_bls : ∀ l : List Bool, plnL (l.map Dat.bl) = true
  | [] => rfl
  | n :: l => by rw [List.map_cons]; unfold plnL; rw [plnL_bls l]; rfl
theorem can_nats : ∀ l : List Nat, PyData.canLayAll0 (l.map fun n : Nat => PyData.int (n : Int)) = true
  | [] => rfl
  | n :: l => by rw [List.map_cons]; unfold PyData.canLayAll0; rw [can_nats l]; rfl
theorem can_bls : ∀ l : List Bool, PyData.canLayAll0 (l.map PyData.bool) = true
  | [] => rfl
  | n :: l => by rw [List.map_cons]; unfold PyData.canLayAll0; rw [can_bls l]; rfl
theorem dep_nats : ∀ l : List Nat, PyData.depthAll (l.map fun n : Nat => PyData.int (n : Int)) = 0
  | [] => rfl
  | n :: l => by rw [List.map_cons]; unfold PyData.depthAll; rw [dep_nats l]; rfl
theorem dep_bls : ∀ l : List Bool, PyData.depthAll (l.map PyData.bool) = 0
  | [] => rfl
  | n :: l => by rw [List.map_cons]; unfold PyData.depthAll; rw [dep_bls l]; rfl
theorem eqv_nats : ∀ a b : List Nat, PyData.eqvAll (a.map fun n : Nat => PyData.int (n : Int)) (b.map fun n : Nat => PyData.int (n : Int)) = decide (a = b)
  | [], [] => by simp [PyData.eqvAll]
  | [], y :: b => by simp [PyData.eqvAll]
  | x :: a, [] => by simp [PyData.eqvAll]
  | x :: a, y :: b => by
    rw [List.map_cons, List.map_cons]
    unfold PyData.eqvAll PyData.eqv
    rw [eqv_nats a b, Bool.eq_iff_iff]
    simp only [Bool.and_eq_true, beq_iff_eq, decide_eq_true_eq, List.cons.injEq]
    exact and_congr_left fun _ => Int.ofNat_inj
theorem eqv_bls : ∀ a b : List Bool, PyData.eqvAll (a.map PyData.bool) (b.map PyData.bool) = decide (a = b)
  | [], [] => by simp [PyData.eqvAll]
  | [], y :: b => by simp [PyData.eqvAll]
  | x :: a, [] => by simp [PyData.eqvAll]
  | x :: a, y :: b => by
    rw [List.map_cons, List.map_cons]
    unfold PyData.eqvAll PyData.eqv
    rw [eqv_bls a b, Bool.eq_iff_iff]
    simp
theorem shp_bls (T : List Bool) : shp (blsD T) = true := by
  unfold shp SeqAt.shaped
  have h1 : pln (blsD T) = true := by unfold blsD pln; exact plnL_bls T
  have h2 : toP (blsD T) = .list (T.map PyData.bool) := by unfold blsD toP; rw [toPs_bls]
  rw [h1, h2]
  unfold PyData.canLay0 PyData.depth
  rw [can_bls, dep_bls]
  rfl
theorem deq_bls (a b : List Bool) : deq (blsD a) (blsD b) = decide (a = b) := by
  unfold deq
  have h2 : ∀ T, toP (blsD T) = .list (T.map PyData.bool) := fun T => by unfold blsD toP; rw [toPs_bls]
  rw [h2, h2]
  unfold PyData.eqv
  exact eqv_bls a b
/-- two numbers and two rows -/
abbrev Frm := Nat × Nat × List Nat × List Nat
@[reducible] def formD (f : Frm) : Dat := .tup [natD f.1, natD f.2.1, natsD f.2.2.1, natsD f.2.2.2]
theorem toP_form (f : Frm) : toP (formD f) = .tuple [.int (f.1 : Int), .int (f.2.1 : Int), .tuple (f.2.2.1.map fun n : Nat => PyData.int (n : Int)), .tuple (f.2.2.2.map fun n : Nat => PyData.int (n : Int))] := by
  unfold formD natsD
  simp only [toP, toPs, toPs_nats]
theorem shp_form (f : Frm) : shp (formD f) = true := by
  unfold shp SeqAt.shaped
  have h1 : pln (formD f) = true := by
    unfold formD natsD
    simp only [pln, plnL, plnL_nats, Bool.and_self]
  rw [h1, toP_form]
  simp only [PyData.canLay0, PyData.canLayAll0, PyData.depth, PyData.depthAll, can_nats, dep_nats]
  decide
theorem deq_form (f g : Frm) : deq (formD f) (formD g) = decide (f = g) := by
  unfold deq
  rw [toP_form, toP_form]
  obtain ⟨a, b, c, d⟩ := f
  obtain ⟨a', b', c', d'⟩ := g
  simp only [PyData.eqv, PyData.eqvAll, eqv_nats]
  rw [Bool.eq_iff_iff]
  simp only [Bool.and_eq_true, beq_iff_eq, decide_eq_true_eq, Prod.mk.injEq, Bool.and_true, and_true]
  have e1 : ((a : Int) = (a' : Int)) ↔ a = a' := Int.ofNat_inj
  have e2 : ((b : Int) = (b' : Int)) ↔ b = b' := Int.ofNat_inj
  rw [e1, e2]
theorem niceL_nats {l : List Nat} (h : ∀ n ∈ l, n < 10 ^ 50) : niceL (l.map natD) = true := by
  induction l with
  | nil => rfl
  | cons n l ih =>
    rw [List.map_cons]
    unfold niceL
    rw [ih fun m hm => h m (List.mem_cons_of_mem _ hm)]
    have := h n List.mem_cons_self
    simp only [nice, Bool.and_true, decide_eq_true_eq]
    simpa using this
theorem weight_nats {l : List Nat} {B : Nat} (hb : 0 < B) (h : ∀ n ∈ l, n < 2 ^ B) : PyData.weightAll (l.map fun n : Nat => PyData.int (n : Int)) ≤ (B + 1) * l.length := by
  induction l with
  | nil => exact Nat.zero_le _
  | cons n l ih =>
    rw [List.map_cons]
    unfold PyData.weightAll PyData.weight
    have h1 := ih fun m hm => h m (List.mem_cons_of_mem _ hm)
    have h2 := h n List.mem_cons_self
    rw [List.length_cons, Nat.mul_succ]
    have h3 : (if ((n : Int) == 0) = true then 0 else (n : Int).natAbs.log2 + 1) ≤ B := by
      split
      · exact Nat.zero_le _
      · rename_i hz
        have hn : n ≠ 0 := fun z => hz (by rw [z]; rfl)
        have := (Nat.log2_lt hn).mpr h2
        show (n : Int).natAbs.log2 + 1 ≤ B
        rw [Int.natAbs_natCast]
        omega
    omega
theorem shw_form {f : Frm} (h1 : f.1 < 65536) (h2 : f.2.1 < 65536) (h3 : ∀ n ∈ f.2.2.1, n < 65536) (h4 : ∀ n ∈ f.2.2.2, n < 65536) (h5 : f.2.2.1.length ≤ 2500) (h6 : f.2.2.2.length ≤ 2500) : Shw (formD f) := by
  have big : ∀ n : Nat, n < 65536 → n < 10 ^ 50 := fun n hn => Nat.lt_of_lt_of_le hn (by decide)
  refine shw_of ?_ ?_ ?_
  · unfold formD natsD
    simp only [nice, niceL, niceL_nats fun n hn => big n (h3 n hn), niceL_nats fun n hn => big n (h4 n hn), Bool.and_true, Bool.and_eq_true, decide_eq_true_eq]
    exact ⟨by simpa using big _ h1, by simpa using big _ h2⟩
  · rw [toP_form]
    simp only [PyData.depth, PyData.depthAll, dep_nats]
    decide
  · rw [toP_form]
    have a := weight_nats (B := 16) (by decide) (fun n hn => h3 n hn)
    have b := weight_nats (B := 16) (by decide) (fun n hn => h4 n hn)
    have c : ∀ n : Nat, n < 65536 → (PyData.int (n : Int)).weight ≤ 16 := fun n hn => by
      unfold PyData.weight
      split
      · exact Nat.zero_le _
      · rename_i hz
        have hn0 : n ≠ 0 := fun z => hz (by rw [z]; rfl)
        have := (Nat.log2_lt hn0).mpr (show n < 2 ^ 16 from hn)
        show (n : Int).natAbs.log2 + 1 ≤ 16
        rw [Int.natAbs_natCast]
        omega
    have d := c _ h1
    have e := c _ h2
    have s : ∀ xs, PyData.weight (.tuple xs) = PyData.weightAll xs := fun xs => by simp only [PyData.weight]
    rw [s]
    simp only [PyData.weightAll, s]
    omega
end BV

end

section
set_option maxHeartbeats 4000000
/-! a, b = x, y with plain local names -/
namespace BV
open PySem PySem.Spec L2
theorem run_par {K : KB} {ρ : LS} {t : TA} {N : LS → Prop} {R : Ret → LS → Prop} {B C : LS → Prop} {i j : Nat} (h : GA K false ρ t fun ds => ∃ x y, ds = [x, y] ∧ N ((ρ.set i (.d x)).set j (.d y))) : Run K ρ (tPar i j t) N R B C := fun c D is σ H o =>
  h c σ H o _ fun vs H1 ds o1 l1 r1 ⟨x, y, e, n⟩ => by
    subst e
    cases r1 with
    | @cons u _ _ _ ru r2 =>
    cases r2 with
    | @cons v _ _ _ rv r3 =>
    cases r3
    refine ⟨u, v, rfl, is.nx _ _ _ ?_ n⟩
    have o2 := o1.setD (i := i) (s := .d x) (v := some u) rfl ⟨u, rfl, ru⟩
    refine o2.setD (i := j) (s := .d y) (v := some v) rfl ⟨v, rfl, rv.mono (ex_setD (s := .d x) rfl)⟩
section
variable {X : Cx} {T id : String} {name : Str} {r : V → List V → Hp → VK → Prop} {o e : Expr} {es : List Expr} {to : L2.TE} {t : TA} {cpos apos : Pos}
/-- o.m(e, ..), its reading without the place's own K -/
theorem pe_bmK (K : PySem.W.Frag) (h : X.K = K) (pa : PlainAttrs T) (slot : PySem.Slot T name id) (hty : typeOf (.builtin id) = pure (.type "method_descriptor")) (hm : MtR X id r) (ho : PE X o to) (ha : PA X (e :: es) t)
    (hbase : attributeBase o name X.env (eval o X.env) = eval o X.env := by rfl)
    (hfew : ((backTo cpos (starEach (e :: es) X.env)).all (fun x => !x.1) && (backToKw cpos (keywordEach [] X.env)).all (fun x => x.1.isSome)
      && decide ((e :: es).length + ([] : List Keyword).length + (if ([] : List Keyword).isEmpty then 0 else 1) < 30)) = true := by rfl)
    (hline : (apos.endLine == cpos.line) = true := by rfl) (hs : starEach (e :: es) X.env = (false, eval e X.env) :: starEach es X.env := by rfl) (hplain : (backTo cpos (starEach es X.env)).any (·.1) = false := by rfl) :
    PE X (.Call (.Attribute o name apos) (e :: es) [] cpos) (tBM K T r to t) := h ▸ pe_bm pa slot hty hm ho ha hbase hfew hline hs hplain
end
end BV

end

section
set_option maxHeartbeats 4000000
/-! constructors and methods that may let an exception out; divmod, str of an int -/
namespace BV
open PySem PySem.Spec L2
open PyProof.Rows (envOfC)
/-- an __init__ that may let an exception out -/
def spJ (K : PySem.W.Frag) (C0 : Addr) (S : List Dat → (List (Str × Dat) → Prop) → RX → Prop) : Sp := fun vs H Q E => ∃ (P : Addr → Prop) (x dx : Addr) (us : List V) (ds : List Dat) (R : List (Str × Dat) → Prop) (RE : RX), vs = .ref x :: us ∧ H x = some (.ins C0 dx []) ∧ ¬ P x ∧ (∀ a, P a → ∃ o, H a = some o) ∧
  RepL K (hid (fun b => P b ∨ b = x) H) us ds ∧ S ds R RE ∧ (∀ H' dx' xs fs, (∀ b o, b ≠ x → H b = some o → H' b = some o) → H' x = some (.ins C0 dx' xs) → RepF K (hid (fun b => P b ∨ b = x) H') xs fs → R fs → Q .non H') ∧
  ∀ C dx H' xs fs, (∀ b o, b ≠ x → H b = some o → H' b = some o) → hid P H' dx = some (.xd xs) → RepF K (hid P H') xs fs → RE C fs → E (.ref C) (some dx) H'
section
variable {X : Cx} {CX : CXT} {k : Nat} {f C : Addr} {fd : FuncData} {ps : List Str} {sp : Sp} {x m : Str} {p pos apos : Pos} {e o : Expr} {es : List Expr} {t : TA} {ta : TE} {E : L2.St → XK}
theorem run_makeS {pins : List (Addr × Obj)} {σ : L2.St} {H : Hp} {s : Shared} {Q : VK} {us : List Value} {vs : List V} (M : Mk X.K C f) (F : FnOk X.prog X.w X.K X.mg X.base CX k f fd ps sp) (hr : Room (k + 1) X.A) (hb : Binds X.K fd ps [])
    (hx : PassesAt CX X σ (E σ)) (I : Inv X pins σ H s) (r : Vals vs us)
    (h : ∀ x dx, H x = none → H dx = none → dx ≠ x → sp (.ref x :: vs) (upd (upd H dx (.own x)) x (.ins C dx [])) (fun v H2 => v = .non ∧ Q (.ref x) H2) (E σ)) :
    wpAny (model X.prog X.w) X.A (call (.ref C) us) (EP X pins σ Q) X.xe s := by
  have hq := h (s.heap.objs.size + 1) s.heap.objs.size (I.hok.fresh (Nat.le_succ _)) (I.hok.fresh (Nat.le_refl _)) (Nat.ne_of_lt (Nat.lt_succ_self _))
  have I2 := Inv.made (C := C) I
  have r2 : Vals (V.ref (s.heap.objs.size + 1) :: vs) (Value.ref (s.heap.objs.size + 1) :: us) := .cons rfl r
  have hl : (Value.ref (s.heap.objs.size + 1) :: us).length = ps.length := by
    have e := r2.length
    rw [F.len _ _ _ _ hq] at e
    exact e.symm
  have hbb := hb _ (Value.ref (s.heap.objs.size + 1) :: us) I2.kIn (by rw [List.append_nil]; exact hl)
  rw [List.append_nil] at hbb
  refine wpAny_call (make_map (f := f) I.kIn M.makes M.init (beq_iff_eq.mp M.fn) (codeAny_mono (F.run _ X.stack _ _ ⟨Value.ref (s.heap.objs.size + 1) :: us, []⟩ (Value.ref (s.heap.objs.size + 1) :: us) _ _ (E σ) (hr.make C us [])
    (I2.env0.make C us []) hbb r2 hq) fun r s' hq' => ?_))
  cases r with
  | error e => exact hx pins _ _ e s' I2 hq'
  | ok fl =>
    cases fl with
    | ret u =>
      obtain ⟨v, H', I3, rv, ev, q3⟩ := I2.after hq'
      subst ev
      exact ⟨rv, ⟨V.ref (s.heap.objs.size + 1), H', I3, rfl, q3⟩⟩
    | next => exact False.elim hq'
    | brk => exact False.elim hq'
    | cont => exact False.elim hq'
theorem pe_makeS (M : Mk X.K C f) (F : FnOk X.prog X.w X.K X.mg X.base CX k f fd ps sp) (hr : Room (k + 1) X.A) (hg : Gl X x) (hm : X.mg x = some (.ref C)) (hb : Binds X.K fd ps []) (hx : ∀ σ, PassesAt CX X σ (E σ))
    (ha : PA X (e :: es) t) (hdb : (x == ("__debug__" : Str)) = false := by decide) (he : starEach (e :: es) X.env = (false, eval e X.env) :: starEach es X.env := by rfl) (hpl : (backTo pos (starEach es X.env)).any (·.1) = false := by rfl) :
    PE X (.Call (.Name x p) (e :: es) [] pos) (tMakeS C sp E t) := by
  refine ⟨fun pins s σ H Q I h => ?_⟩
  refine wpAny_Call_Name_kw (ld_glob I hg hm ?_ hdb)
  refine PySem.W.callWith_K (h₀ := X.base) I.ok.mod.kin M.kp (thn (ha.run pos pins s σ H _ I h) fun us s1 ⟨vs, H1, I1, r, q⟩ => ⟨I1.kIn, ?_⟩) he hpl
  exact run_makeS M F hr hb (hx σ) I1 r q
theorem run_fnRW {pins : List (Addr × Obj)} {σ : L2.St} {H : Hp} {s : Shared} {Q : VK} {us : List Value} {vs : List V} (F : FnR X.prog X.w X.K X.mg X.base CX k f sp) (hr : Room k X.A) (hx : PassesAt CX X σ (E σ)) (I : Inv X pins σ H s) (r : Vals vs us) (h : sp vs H Q (E σ)) :
    wpAny (model X.prog X.w) X.A (call (.ref f) us) (EP X pins σ Q) X.xe s := wpAny_call (run_fnRS F hr hx I r h)
def tMth (C : Addr) (m : Str) (sp : Sp) (E : L2.St → XK) (ta : TE) (t : TA) : TE := fun σ H Q => ta σ H fun x H1 => ∃ a dx fs, x = .ref a ∧ H1 a = some (.ins C dx fs) ∧ fs.lookup m = none ∧ t σ H1 fun vs H2 => sp (x :: vs) H2 Q (E σ)
/-- o.m(e, ..) and o.m() -/
theorem pe_mthS {pl : Sem Bool} (he : PE X o ta) (c : Cls X.K C) (hm : Meth X.K C m f) (F : FnR X.prog X.w X.K X.mg X.base CX k f sp) (hr : Room k X.A) (hx : ∀ σ, PassesAt CX X σ (E σ)) (ha : PA X (e :: es) t)
    (hst : starEach (e :: es) X.env = (false, eval e X.env) :: starEach es X.env := by rfl) (hpl : (backTo pos (starEach es X.env)).any (·.1) = false := by rfl)
    (ht : eval (.Call (.Attribute o m apos) (e :: es) [] pos) X.env = (do
      let ov ← eval o X.env
      standAt apos.atName
      let (f, first) ← holding [ov] (getMethod ov m pl)
      callWith pos f first (backTo pos (starEach (e :: es) X.env)) (backToKw pos (keywordEach [] X.env))) := by rfl) :
    PE X (.Call (.Attribute o m apos) (e :: es) [] pos) (tMth C m sp E ta t) := by
  refine ⟨fun pins s σ H Q I h => ?_⟩
  refine PySem.W.methodCall_KW (pl := pl) (thn (he.run pins s σ H _ I h) fun u s1 ⟨x, H1, I1, rx, a, dx, fs, ex, ea, l, q⟩ => ?_) ht
  subst ex
  obtain rfl : u = Value.ref a := rx
  refine getmeth_ok I1 ea c hm l ?_
  refine PySem.W.callWith_K (first := [.ref a]) (h₀ := X.base) I.ok.mod.kin hm.kp (thn (ha.run pos pins s1 σ H1 _ I1 q) fun us s2 ⟨vs, H2, I2, r, q2⟩ => ⟨I2.kIn, ?_⟩) hst hpl
  exact run_fnRW (us := .ref a :: us) (vs := .ref a :: vs) F hr (hx σ) I2 (.cons rfl r) q2
theorem pe_mthS0 {pl : Sem Bool} (he : PE X o ta) (c : Cls X.K C) (hm : Meth X.K C m f) (F : FnR X.prog X.w X.K X.mg X.base CX k f sp) (hr : Room k X.A) (hx : ∀ σ, PassesAt CX X σ (E σ))
    (ht : eval (.Call (.Attribute o m apos) [] [] pos) X.env = (do
      let ov ← eval o X.env
      standAt apos.atName
      let (f, first) ← holding [ov] (getMethod ov m pl)
      callWith pos f first (backTo pos (starEach [] X.env)) (backToKw pos (keywordEach [] X.env))) := by rfl) :
    PE X (.Call (.Attribute o m apos) [] [] pos) (tMth C m sp E ta tNil) := by
  refine ⟨fun pins s σ H Q I h => ?_⟩
  refine PySem.W.methodCall_KW (pl := pl) (thn (he.run pins s σ H _ I h) fun u s1 ⟨x, H1, I1, rx, a, dx, fs, ex, ea, l, q⟩ => ?_) ht
  subst ex
  obtain rfl : u = Value.ref a := rx
  refine getmeth_ok I1 ea c hm l ?_
  exact PySem.W.callWith_K0 (first := [.ref a]) I1.kIn hm.kp (run_fnRW (us := [.ref a]) (vs := [.ref a]) F hr (hx σ) I1 (.cons rfl .nil) q)
end
def rDivmod : List V → Hp → VK → Prop := fun xs H Q => ∃ i j, xs = [.int i, .int j] ∧ CDivP i j ∧ ∀ p, H p = none → Q (.ref p) (upd H p (.tup [.int (i / j), .int (i % j)]))
theorem call_divmod_ {X : Cx} : CallR X (.builtin "divmod") rDivmod := call_divmodW
def rStrI : List V → Hp → VK → Prop := fun xs H Q => ∃ i, xs = [.int i] ∧ i.natAbs.log2 < 1920 ∧ Q (.str (toString i)) H
theorem call_strI {X : Cx} : CallR X (.type "str") rStrI := call_str_int
/-! ### by data -/
section
variable {K : KB} {w w1 : Bool} {ρ : LS} {t : TA} {ta : TE} {R : Dat → Prop} {E : L2.St → XK} {C : Addr} {m : Str}
theorem g_mthF {S : List Dat → (Dat → Prop) → Prop} (h : G K w ρ ta fun x => ∃ fs, x = .obj C fs ∧ fs.lookup m = none ∧ GA K w ρ t fun ds => S (.obj C fs :: ds) R) : G K w ρ (tMth C m (spF K.F S) E ta t) R := fun c σ H o Q q =>
  h c σ H o _ fun u H1 x o1 l1 r1 ⟨fs, ex, hl, k⟩ => by
    subst ex
    cases r1 with
    | @obj a _ dx xs _ ha rf =>
    refine ⟨a, dx, xs, rfl, vw_le a _ ha, rf.lookupN hl, ?_⟩
    exact k c σ H1 o1 _ fun vs H2 ds o2 l2 r2 hS => ⟨_, .obj C fs :: ds, R, o2.trk (w := w), .cons ((Rep.obj ha rf).mono l2.vw) r2, hS, fun v H' d e rv rd => q v H' d (o2.ex e) ((l1.trans l2).trans e.le) rv rd⟩
theorem g_mthX {S : List Dat → (Dat → Prop) → RX → Prop} (h : G K false ρ ta fun x => ∃ fs, x = .obj C fs ∧ fs.lookup m = none ∧ GA K false ρ t fun ds => ∃ RE, S (.obj C fs :: ds) R RE ∧ ∀ C fs, RE C fs → K.RE C fs ρ) : G K false ρ (tMth C m (spX K.F S) (WE K.E) ta t) R := fun c σ H o Q q =>
  h c σ H o _ fun u H1 x o1 l1 r1 ⟨fs, ex, hl, k⟩ => by
    subst ex
    cases r1 with
    | @obj a _ dx xs _ ha rf =>
    refine ⟨a, dx, xs, rfl, vw_le a _ ha, rf.lookupN hl, ?_⟩
    exact k c σ H1 o1 _ fun vs H2 ds o2 l2 r2 ⟨RE, hS, kx⟩ => ⟨_, .obj C fs :: ds, R, RE, o2.trk (w := false), .cons ((Rep.obj ha rf).mono l2.vw) r2, hS, fun v H' d e rv rd => q v H' d (o2.ex e) ((l1.trans l2).trans e.le) rv rd, fun C' dx' H' xs' fs' e hx rf' re => XOk.call o2 e hx rf' (kx C' fs' re)⟩
theorem g_makeX {S : List Dat → (List (Str × Dat) → Prop) → RX → Prop} (h : GA K false ρ t fun ds => ∃ RE, S ds (fun fs => R (.obj C fs)) RE ∧ ∀ C fs, RE C fs → K.RE C fs ρ) : G K false ρ (tMakeS C (spJ K.F C S) (WE K.E) t) R := fun c σ H o Q q =>
  h c σ H o _ fun vs H1 ds o1 l1 r1 ⟨RE, k, kx⟩ => fun x dx hx hdx ne => by
    have e1 : Ex H1 (upd (upd H1 dx (.own x)) x (.ins C dx [])) := (Ex.new hdx).trans (Ex.new (by rw [upd_ne ne.symm]; exact hx))
    have o2 := o1.ex e1
    refine ⟨fun b => c.P b ∨ (if false = true then Fr ρ σ b else Pr ρ σ b), x, dx, vs, ds, _, RE, rfl, upd_same, o1.vis (w := false) hx, o2.trk, r1.mono (hid_ex fun b ob hb e => ⟨fun z => ?_, e1 b ob e⟩), k, fun H' dx' xs fs hk hx' rf rr => ⟨rfl, ?_⟩, fun C' dx' H' xs fs hk hx' rf re => ?_⟩
    · rcases z with z | z
      · exact hb z
      · rw [z, hx] at e; cases e
    · have e3 : Ex H1 H' := fun b ob e => hk b ob (fun z => by rw [z, hx] at e; cases e) (e1 b ob e)
      exact q _ H' _ (o1.ex e3) (l1.trans e3.le) (.obj (hid_some.mpr ⟨o1.vis (w := false) hx, hx'⟩) (rf.mono (hid_ex fun b ob hb e => ⟨fun z => hb (.inl z), e⟩))) rr
    · have e3 : Ex H1 H' := fun b ob e => hk b ob (fun z => by rw [z, hx] at e; cases e) (e1 b ob e)
      exact XOk.call o1 e3 hx' rf (kx C' fs re)
theorem oc_strI {i : Int} (h : i.natAbs.log2 < 1920) (k : R (.str (sW (toString i)))) : OpC K w1 w ρ rStrI [.int i] R := fun c σ H us o r Q q => by
  cases r with
  | cons r1 r2 =>
  cases r2
  cases r1
  exact ⟨i, rfl, h, q _ H _ o .refl (rep_str _) k⟩
theorem oc_divmod {i j : Int} (h : CDivP i j) (k : R (.tup [.int (i / j), .int (i % j)])) : OpC K w1 w ρ rDivmod [.int i, .int j] R := fun c σ H us o r Q q => by
  cases r with
  | cons r1 r2 =>
  cases r2 with
  | cons r2 r3 =>
  cases r3
  cases r1
  cases r2
  refine ⟨i, j, rfl, h, fun p hp => ?_⟩
  exact q _ _ _ (o.ex (Ex.new hp)) (Ex.new hp).le (.tup (.inl (.inl (o.vw_new hp))) (.cons (.int _) (.cons (.int _) .nil))) k
end
section
variable {K : PySem.W.Frag} {P : Program} {wd : World} {mg : Str → Option Value} {base : Heap} {x qual : Str} {st : Stmt} {f : Addr} {fd : FuncData} {N ps : List Str} {k : Nat}
theorem okJ {C : Addr} {S : List Dat → (List (Str × Dat) → Prop) → RX → Prop} (F : Fun K x qual st f fd) (sc : FnScope N ps (defScope st)) (len : ∀ ds R RE, S ds R RE → ds.length + 1 = ps.length)
    (hb : ∀ (cdv : Value) (A : Around) (outer : List Env) (s : Shared) (H : Hp) (E : XK), Room k (A.deeper (envOfC qual (defScope st) s.heap.objs.size f cdv)) →
      ∃ t, PSs (cxOf (L2.CX P wd) P wd K mg base N qual (defScope st) f cdv A outer s H E) (defBody st) t ∧ ∀ (s : Addr) ds R RE, S ds R RE → Run ⟨K, fun cls d _ H => E cls d H, fun C fs _ => RE C fs⟩ (.ins s C [] :: startS N.tail ds) t (fun ρ => ∃ fs, ρ[0]? = some (.ins s C fs) ∧ R fs) (fun r ρ => False) (fun _ => False) fun _ => False) :
    FnOk P wd K mg base (L2.CX P wd) (k + 1) f fd ps (spJ K C S) := by
  refine F.okX sc (fun vs H Q E h => ?_) fun cdv A outer s H vs Q E hr h => ?_
  · obtain ⟨P, s, dx, us, ds, R, RE, rfl, _, _, _, r, hS, _⟩ := h
    rw [List.length_cons, r.length]
    exact len ds R RE hS
  · obtain ⟨Pp, s0, dx, us, ds, R, RE, rfl, hs0, np0, hp, r, hS, kq, kx⟩ := h
    obtain ⟨t, ht, run⟩ := hb cdv A outer s H E hr
    refine ⟨t, ht, ?_⟩
    have hl := len ds R RE hS
    have hN : N ≠ [] := fun z => by
      have e := sc.pre
      rw [z] at e
      have : ps.length = 0 := by rw [← e]; simp
      omega
    obtain ⟨n0, Nt, rfl⟩ := List.exists_cons_of_ne_nil hN
    have es : L2.start (n0 :: Nt) (V.ref s0 :: us) = some (.ref s0) :: L2.start Nt us := by
      unfold L2.start
      simp
    rw [es]
    have get : ∀ {i : Nat} {s' : Slot} {v' : Option V}, (Slot.ins s0 C [] :: startS Nt ds)[i]? = some s' → (some (V.ref s0) :: L2.start Nt us)[i]? = some v' → (i = 0 ∧ s' = .ins s0 C [] ∧ v' = some (.ref s0)) ∨ s' = .no ∨ ∃ x u, s' = .d x ∧ v' = some u ∧ Rep K (hid (fun b => Pp b ∨ b = s0) H) u x := fun {i s' v'} h1 h2 => by
      cases i with
      | zero => simp at h1 h2; exact .inl ⟨rfl, h1.symm, h2.symm⟩
      | succ i => exact .inr (start_get r (by simpa using h1) (by simpa using h2))
    have prs : ∀ a, Pr (Slot.ins s0 C [] :: startS Nt ds) (some (.ref s0) :: L2.start Nt us) a → a = s0 := fun a ⟨i, s', v', h1, h2, h3⟩ => by
      rcases get h1 h2 with ⟨_, e, e2⟩ | e | ⟨y, u, e, _⟩
      · rw [e] at h3; cases h3; rfl
      · rw [e] at h3; cases h3
      · rw [e] at h3; cases h3
    have o : Ok ⟨K, fun cls d _ H => E cls d H, fun C fs _ => RE C fs⟩ ⟨Pp, fun b => b = s0, H⟩ (Slot.ins s0 C [] :: startS Nt ds) (some (.ref s0) :: L2.start Nt us) H := by
      refine ⟨⟨by rw [List.length_cons, List.length_cons, start_len r.length], fun i s' v' h1 h2 => ?_, fun i j s1 v1 s2 v2 a g1 g2 g3 g4 g5 g6 => ?_, fun a h => by rw [prs a h]; exact np0, fun _ _ _ h => h, fun a h => .inl (prs a h), hp⟩, fun C dx ρ' σ' H' xs fs o' hx rf re => ?_⟩
      · rcases get h1 h2 with ⟨_, e, e2⟩ | e | ⟨y, u, e, e2, ru⟩
        · rw [e, e2]; exact ⟨dx, [], rfl, hs0, .nil⟩
        · rw [e]; trivial
        · rw [e, e2]
          refine ⟨u, rfl, ru.mono (hid_ex fun b ob hb e => ⟨fun z => ?_, e⟩)⟩
          rcases z with z | z
          · exact hb (.inl z)
          · rw [if_neg Bool.false_ne_true] at z; exact hb (.inr (prs b z))
      · have z1 : i = 0 := by
          rcases get g1 g2 with ⟨e, _⟩ | e | ⟨y, u, e, _⟩
          · exact e
          · rw [e] at g3; cases g3
          · rw [e] at g3; cases g3
        have z2 : j = 0 := by
          rcases get g4 g5 with ⟨e, _⟩ | e | ⟨y, u, e, _⟩
          · exact e
          · rw [e] at g6; cases g6
          · rw [e] at g6; cases g6
        rw [z1, z2]
      · have le : Ex (sv ⟨Pp, fun b => b = s0, H⟩ ρ' σ' H') (hid Pp H') := hid_ex fun b ob hb e => ⟨fun z => hb (.inl z), e⟩
        exact kx C dx H' xs fs (fun b ob nb e => o'.fr b ob nb e) (le dx _ hx) (rf.mono le) re
    refine run s0 ds R RE hS _ _ ⟨fun ρ' σ' H' o' ⟨fs, h0, rr⟩ => ?_, fun ρ' σ' H' v d o' rv rd => rd.elim, fun ρ' σ' H' a s' o' hx rs hpa rd => rd.elim, fun _ _ _ _ z => z.elim, fun _ _ _ _ z => z.elim⟩ _ _ o
    obtain ⟨v0, e0, dx', xs, rfl, hx, rf⟩ := o'.get h0
    have hF : Pr ρ' σ' s0 := ⟨0, _, _, h0, e0, rfl⟩
    refine kq H' dx' xs fs (fun b ob nb e => o'.fr b ob nb e) hx (rf.mono (hid_ex fun b ob hb e => ⟨fun z => ?_, e⟩)) rr
    rcases z with z | z
    · exact hb (.inl z)
    · exact hb (.inr (by rw [if_neg Bool.false_ne_true, z]; exact hF))
end
theorem run_dropS {K : KB} {ρ : LS} {t : TA} {sp : Sp} {E : L2.St → XK} {N : LS → Prop} {R : Ret → LS → Prop} {B C : LS → Prop} (h : G K false ρ (tCallS sp E t) fun _ => N ρ) : Run K ρ (tDrop (tCallS sp E t)) N R B C := fun c D is σ H o =>
  h c σ H o _ fun v H2 d o2 l r k => is.nx ρ σ H2 o2 k
theorem c_le1 {α : Type} {x : α} {xs : List α} {A B : Prop} (h : A) : ((!(x :: xs).isEmpty) = true → A) ∧ ((!(x :: xs).isEmpty) = false → B) := ⟨fun _ => h, fun z => (nomatch z)⟩
theorem c_le0 {α : Type} {A B : Prop} (h : B) : ((!([] : List α).isEmpty) = true → A) ∧ ((!([] : List α).isEmpty) = false → B) := ⟨fun z => (nomatch z), fun _ => h⟩
theorem c_ne1 {α : Type} {x : α} {xs : List α} {A B : Prop} (h : B) : ((!!(x :: xs).isEmpty) = true → A) ∧ ((!!(x :: xs).isEmpty) = false → B) := ⟨fun z => (nomatch z), fun _ => h⟩
theorem c_ne0 {α : Type} {A B : Prop} (h : A) : ((!!([] : List α).isEmpty) = true → A) ∧ ((!!([] : List α).isEmpty) = false → B) := ⟨fun _ => h, fun z => (nomatch z)⟩
end BV

end

section
/-! Sets of numbers that come round, in plain Lean. -/
namespace WM
abbrev Form := Nat × Nat × List Nat × List Nat
def isPer (row : List Bool) (s : Nat) : Bool := decide (row.length % s = 0) && decide (row = (List.replicate (row.length / s) (row.take s)).flatten)
def lp (row : List Bool) : Nat := ((List.range' 1 row.length).find? (isPer row)).getD row.length
def back (T : List Bool) (s : Nat) : Nat → Nat
  | 0 => 0
  | i + 1 => if T.getD i false = T.getD (i + s) false then back T s i else i + 1
def redu (T : List Bool) (i : Nat) : Form :=
  (back T (lp (T.drop i)) i, lp (T.drop i), (List.range (back T (lp (T.drop i)) i)).filter (fun n => T.getD n false), (List.range (lp (T.drop i))).filter fun n => T.getD (back T (lp (T.drop i)) i + n) false)
def inside (f : Form) (k : Nat) : Bool := if k < f.1 then f.2.2.1.contains k else f.2.2.2.contains ((k - f.1) % f.2.1)
def expand (f : Form) : List Bool := (List.range (f.1 + f.2.1)).map (inside f)
theorem rep_getD (xs : List Bool) (h : 0 < xs.length) : ∀ (m n : Nat), n < m * xs.length → (List.replicate m xs).flatten.getD n false = xs.getD (n % xs.length) false
  | 0, n, hn => by omega
  | m + 1, n, hn => by
    rw [List.replicate_succ, List.flatten_cons]
    by_cases hx : n < xs.length
    · rw [Nat.mod_eq_of_lt hx, List.getD_eq_getElem?_getD, List.getD_eq_getElem?_getD, List.getElem?_append_left hx]
    · have hle : xs.length ≤ n := by omega
      have ih := rep_getD xs h m (n - xs.length) (by rw [Nat.succ_mul] at hn; omega)
      rw [List.getD_eq_getElem?_getD, List.getElem?_append_right hle, ← List.getD_eq_getElem?_getD, ih]
      rw [Nat.mod_eq_sub_mod hle]
theorem ext_getD {a b : List Bool} (hl : a.length = b.length) (h : ∀ n, n < a.length → a.getD n false = b.getD n false) : a = b := by
  refine List.ext_getElem hl fun n h1 h2 => ?_
  have := h n h1
  rw [List.getD_eq_getElem?_getD, List.getD_eq_getElem?_getD, List.getElem?_eq_getElem h1, List.getElem?_eq_getElem h2] at this
  exact this
theorem take_getD {a : List Bool} {s n : Nat} (h : n < s) : (a.take s).getD n false = a.getD n false := by
  rw [List.getD_eq_getElem?_getD, List.getD_eq_getElem?_getD, List.getElem?_take_of_lt h]
theorem drop_getD (a : List Bool) (i n : Nat) : (a.drop i).getD n false = a.getD (i + n) false := by
  rw [List.getD_eq_getElem?_getD, List.getD_eq_getElem?_getD, List.getElem?_drop]
def Per (row : List Bool) (s : Nat) : Prop := s ∣ row.length ∧ ∀ n, n < row.length → row.getD n false = row.getD (n % s) false
theorem per_iff {row : List Bool} {s : Nat} (hs : 0 < s) : isPer row s = true ↔ Per row s := by
  unfold isPer Per
  rw [Bool.and_eq_true, decide_eq_true_eq, decide_eq_true_eq]
  constructor
  · rintro ⟨h1, h2⟩
    have hd : s ∣ row.length := Nat.dvd_of_mod_eq_zero h1
    refine ⟨hd, fun n hn => ?_⟩
    have hsl : s ≤ row.length := Nat.le_of_dvd (by omega) hd
    have hl : (row.take s).length = s := by rw [List.length_take]; omega
    have e := rep_getD (row.take s) (by omega) (row.length / s) n (by rw [hl, Nat.div_mul_cancel hd]; exact hn)
    rw [← h2, hl, take_getD (Nat.mod_lt n hs)] at e
    exact e
  · rintro ⟨hd, h⟩
    refine ⟨Nat.mod_eq_zero_of_dvd hd, ?_⟩
    by_cases h0 : row.length = 0
    · rw [h0]
      have : row = [] := List.length_eq_zero_iff.mp h0
      rw [this]
      simp
    have hsl : s ≤ row.length := Nat.le_of_dvd (by omega) hd
    have hl : (row.take s).length = s := by rw [List.length_take]; omega
    have hlen : (List.replicate (row.length / s) (row.take s)).flatten.length = row.length := by
      rw [List.length_flatten, List.map_replicate, List.sum_replicate_nat, hl, Nat.div_mul_cancel hd]
    refine ext_getD hlen.symm fun n hn => ?_
    rw [rep_getD (row.take s) (by omega) _ n (by rw [hl, Nat.div_mul_cancel hd]; exact hn), hl, take_getD (Nat.mod_lt n hs)]
    exact h n hn
theorem per_len {row : List Bool} (h : 0 < row.length) : Per row row.length := ⟨Nat.dvd_refl _, fun n hn => by rw [Nat.mod_eq_of_lt hn]⟩
theorem lp_spec {row : List Bool} (h : 0 < row.length) : 0 < lp row ∧ Per row (lp row) ∧ ∀ d, 0 < d → d < lp row → ¬ Per row d := by
  unfold lp
  cases e : (List.range' 1 row.length).find? (isPer row) with
  | none =>
    have := List.find?_eq_none.mp e row.length (by rw [List.mem_range'_1]; omega)
    exact absurd ((per_iff h).mpr (per_len h)) this
  | some s =>
    have h1 := List.find?_some e
    have h2 := List.mem_range'_1.mp (List.mem_of_find?_eq_some e)
    refine ⟨by show 0 < s; omega, (per_iff (s := s) (by omega)).mp h1, fun d hd hds hp => ?_⟩
    have hds : d < s := hds
    obtain ⟨_, as, bs, e2, e3⟩ := List.find?_eq_some_iff_append.mp e
    have hm : d ∈ as := by
      have hd2 : d ∈ List.range' 1 row.length := List.mem_range'_1.mpr (by omega)
      rw [e2] at hd2
      rcases List.mem_append.mp hd2 with z | z
      · exact z
      · exfalso
        have hsrt : (as ++ s :: bs).Pairwise (· < ·) := by rw [← e2]; exact List.pairwise_lt_range'
        have h5 := (List.pairwise_append.mp hsrt).2.1
        rcases List.mem_cons.mp z with z | z
        · omega
        · have := List.rel_of_pairwise_cons h5 z
          omega
    have := e3 d hm
    rw [(per_iff hd).mpr hp] at this
    cases this
theorem lp_le {row : List Bool} (h : 0 < row.length) : lp row ≤ row.length := Nat.le_of_dvd h (lp_spec h).2.1.1
theorem back_le (T : List Bool) (s : Nat) : ∀ i, back T s i ≤ i
  | 0 => Nat.le_refl _
  | i + 1 => by
    unfold back
    split
    · exact Nat.le_succ_of_le (back_le T s i)
    · exact Nat.le_refl _
theorem back_eq (T : List Bool) (s : Nat) : ∀ i n, back T s i ≤ n → n < i → T.getD n false = T.getD (n + s) false
  | 0, n, _, h => by omega
  | i + 1, n, h1, h2 => by
    unfold back at h1
    split at h1
    · rename_i e
      by_cases hn : n = i
      · rw [hn]; exact e
      · exact back_eq T s i n h1 (by omega)
    · omega
theorem back_stop (T : List Bool) (s : Nat) : ∀ i, back T s i = 0 ∨ T.getD (back T s i - 1) false ≠ T.getD (back T s i - 1 + s) false
  | 0 => .inl rfl
  | i + 1 => by
    unfold back
    split
    · exact back_stop T s i
    · rename_i e
      exact .inr e
theorem filter_mem {j k : Nat} {p : Nat → Bool} (h : k < j) : ((List.range j).filter p).contains k = p k := by
  rw [Bool.eq_iff_iff, List.contains_iff_mem, List.mem_filter, List.mem_range]
  exact ⟨fun z => z.2, fun z => ⟨h, z⟩⟩
section
variable {T : List Bool} {i : Nat}
theorem redu_shape (h : i < T.length) : (redu T i).1 ≤ i ∧ 0 < (redu T i).2.1 ∧ i + (redu T i).2.1 ≤ T.length := by
  have hl : 0 < (T.drop i).length := by rw [List.length_drop]; omega
  refine ⟨back_le _ _ _, (lp_spec hl).1, ?_⟩
  have := lp_le hl
  rw [List.length_drop] at this
  show i + lp (T.drop i) ≤ T.length
  omega
/-- beyond its start what is told comes round -/
theorem redu_per (h : i < T.length) {n : Nat} (h1 : (redu T i).1 ≤ n) (h2 : n + (redu T i).2.1 < T.length) : T.getD n false = T.getD (n + (redu T i).2.1) false := by
  have hl : 0 < (T.drop i).length := by rw [List.length_drop]; omega
  obtain ⟨s0, ⟨hd, hp⟩, _⟩ := lp_spec hl
  by_cases hn : n < i
  · exact back_eq T (lp (T.drop i)) i n h1 hn
  · have h2' : n + lp (T.drop i) < T.length := h2
    have e1 := hp (n - i) (by rw [List.length_drop]; omega)
    have e2 := hp (n - i + lp (T.drop i)) (by rw [List.length_drop]; omega)
    rw [Nat.add_mod_right, ← e1, drop_getD, drop_getD] at e2
    have a1 : i + (n - i + lp (T.drop i)) = n + lp (T.drop i) := by omega
    have a2 : i + (n - i) = n := by omega
    rw [a1, a2] at e2
    exact e2.symm
theorem redu_in (h : i < T.length) {n : Nat} (hn : n < (redu T i).1 + (redu T i).2.1) : inside (redu T i) n = T.getD n false := by
  unfold inside
  by_cases h1 : n < (redu T i).1
  · rw [if_pos h1]
    exact filter_mem h1
  · rw [if_neg h1]
    have h2 : n - (redu T i).1 < (redu T i).2.1 := by omega
    rw [Nat.mod_eq_of_lt h2]
    have := filter_mem (p := fun n => T.getD ((redu T i).1 + n) false) h2
    refine Eq.trans this ?_
    show T.getD ((redu T i).1 + (n - (redu T i).1)) false = _
    congr 1
    omega
theorem expand_len (f : Form) : (expand f).length = f.1 + f.2.1 := by unfold expand; rw [List.length_map, List.length_range]
theorem expand_getD {f : Form} {n : Nat} (h : n < f.1 + f.2.1) : (expand f).getD n false = inside f n := by
  unfold expand
  rw [List.getD_eq_getElem?_getD, List.getElem?_map, List.getElem?_range h]
  rfl
theorem redu_exp (h : i < T.length) : expand (redu T i) = T.take ((redu T i).1 + (redu T i).2.1) := by
  obtain ⟨h1, h2, h3⟩ := redu_shape h
  refine ext_getD (by rw [expand_len, List.length_take]; omega) fun n hn => ?_
  rw [expand_len] at hn
  rw [expand_getD hn, redu_in h hn, take_getD hn]
theorem steps_per (h : i < T.length) : ∀ (m n : Nat), (redu T i).1 ≤ n → n + m * (redu T i).2.1 < T.length → T.getD (n + m * (redu T i).2.1) false = T.getD n false
  | 0, n, _, _ => by rw [Nat.zero_mul, Nat.add_zero]
  | m + 1, n, h1, h2 => by
    rw [Nat.succ_mul] at h2 ⊢
    have e := redu_per h (n := n + m * (redu T i).2.1) (by omega) (by omega)
    rw [← Nat.add_assoc, ← e]
    exact steps_per h m n h1 (by omega)
theorem mod_steps (h : i < T.length) {n : Nat} (hn : (redu T i).1 + n < T.length) : T.getD ((redu T i).1 + n) false = T.getD ((redu T i).1 + n % (redu T i).2.1) false := by
  have e := steps_per h (n / (redu T i).2.1) ((redu T i).1 + n % (redu T i).2.1) (by omega) (by
    have := Nat.mod_add_div n (redu T i).2.1
    rw [Nat.mul_comm] at this
    omega)
  rw [← e]
  congr 1
  have := Nat.mod_add_div n (redu T i).2.1
  rw [Nat.mul_comm] at this
  omega
/-- what is reduced stays as it is -/
theorem redu_idem (h : i < T.length) : redu (expand (redu T i)) (redu T i).1 = redu T i := by
  obtain ⟨h1, h2, h3⟩ := redu_shape h
  generalize hf : redu T i = f at *
  obtain ⟨j, s, a, b⟩ := f
  dsimp only at h1 h2 h3
  have hE : expand (j, s, a, b) = T.take (j + s) := by rw [← hf]; exact (redu_exp h).trans (by rw [hf])
  have hj : (redu T i).1 = j := by rw [hf]
  have hs : (redu T i).2.1 = s := by rw [hf]
  have hlE : (T.take (j + s)).length = j + s := by rw [List.length_take]; omega
  have hrow : 0 < ((T.take (j + s)).drop j).length := by rw [List.length_drop, hlE]; omega
  have hrl : ((T.take (j + s)).drop j).length = s := by rw [List.length_drop, hlE]; omega
  have rowD : ∀ n, n < s → ((T.take (j + s)).drop j).getD n false = T.getD (j + n) false := fun n hn => by rw [drop_getD, take_getD (by omega)]
  have hlT : 0 < (T.drop i).length := by rw [List.length_drop]; omega
  have hsl : s = lp (T.drop i) := by rw [← hs]; rfl
  have hlp : lp ((T.take (j + s)).drop j) = s := by
    obtain ⟨d0, ⟨hd, hp⟩, _⟩ := lp_spec hrow
    have hle := lp_le hrow
    rw [hrl] at hle hd
    generalize lp ((T.take (j + s)).drop j) = d at *
    rcases Nat.lt_or_ge d s with hlt | hge
    · exfalso
      obtain ⟨_, ⟨hsd, _⟩, hmin⟩ := lp_spec hlT
      rw [← hsl] at hsd hmin
      -- beyond j the table comes round with d
      have hall : ∀ n, j + n < T.length → T.getD (j + n) false = T.getD (j + n % d) false := fun n hn => by
        have e := mod_steps h (n := n) (by rw [hj]; exact hn)
        rw [hj, hs] at e
        have hm := Nat.mod_lt n h2
        rw [e, ← rowD _ hm, hp _ (by rw [hrl]; exact hm), rowD _ (by have := Nat.mod_lt (n % s) d0; omega), Nat.mod_mod_of_dvd _ hd]
      refine hmin d d0 hlt ⟨Nat.dvd_trans hd hsd, fun n hn => ?_⟩
      rw [List.length_drop] at hn
      rw [drop_getD, drop_getD]
      have a1 : i + n = j + (i - j + n) := by omega
      have hmd := Nat.mod_lt n d0
      have hmn := Nat.mod_le n d
      have a2 : i + n % d = j + (i - j + n % d) := by omega
      rw [a1, a2, hall (i - j + n) (by omega), hall (i - j + n % d) (by omega), Nat.add_mod_mod]
    · omega
  have hbk : back (T.take (j + s)) s j = j := by
    have := back_stop T (lp (T.drop i)) i
    have hjb : back T (lp (T.drop i)) i = j := by rw [← hj]; rfl
    rw [hjb, ← hsl] at this
    cases j with
    | zero => rfl
    | succ m =>
      rcases this with z | z
      · omega
      · unfold back
        rw [if_neg]
        rw [take_getD (by omega), take_getD (by omega)]
        exact z
  have hA : (redu T i).2.2.1 = a := by rw [hf]
  have hB : (redu T i).2.2.2 = b := by rw [hf]
  have hjb : back T (lp (T.drop i)) i = j := by rw [← hj]; rfl
  rw [hE]
  unfold redu
  rw [hlp, hbk]
  refine Prod.ext rfl (Prod.ext rfl (Prod.ext ?_ ?_))
  · show (List.range j).filter _ = a
    rw [← hA]
    show _ = (List.range (back T (lp (T.drop i)) i)).filter _
    rw [hjb]
    refine List.filter_congr fun n hn => ?_
    rw [List.mem_range] at hn
    exact take_getD (by omega)
  · show (List.range s).filter _ = b
    rw [← hB]
    show _ = (List.range (lp (T.drop i))).filter _
    rw [hjb, ← hsl]
    refine List.filter_congr fun n hn => ?_
    rw [List.mem_range] at hn
    exact take_getD (by omega)
end
/-- the members stay the same -/
theorem redu_same {f : Form} (hp : 0 < f.2.1) (k : Nat) : inside (redu (expand f) f.1) k = inside f k := by
  have hi : f.1 < (expand f).length := by rw [expand_len]; omega
  obtain ⟨h1, h2, h3⟩ := redu_shape hi
  have hT : ∀ n, n < f.1 + f.2.1 → (expand f).getD n false = inside f n := fun n hn => expand_getD hn
  have hL := expand_len f
  generalize hg : redu (expand f) f.1 = g at *
  obtain ⟨j, s, a, b⟩ := g
  have hj : (redu (expand f) f.1).1 = j := by rw [hg]
  have hs : (redu (expand f) f.1).2.1 = s := by rw [hg]
  dsimp only at h1 h2 h3
  have hin : ∀ n, n < j + s → inside (j, s, a, b) n = inside f n := fun n hn => by
    rw [← hT n (by omega), ← redu_in hi (n := n) (by rw [hj, hs]; exact hn), hg]
  by_cases hk : k < j
  · exact hin k (by omega)
  · -- both come round
    have e1 : inside (j, s, a, b) k = inside f (j + (k - j) % s) := by
      have hm := Nat.mod_lt (k - j) h2
      rw [← hin _ (by omega)]
      unfold inside
      dsimp only
      rw [if_neg hk, if_neg (by omega)]
      congr 1
      rw [Nat.add_sub_cancel_left, Nat.mod_mod]
    rw [e1]
    have tab : ∀ n, j + n < f.1 + f.2.1 → inside f (j + n) = inside f (j + n % s) := fun n hn => by
      have hm := Nat.mod_le n s
      have e := mod_steps hi (n := n) (by rw [hj, hL]; exact hn)
      rw [hj, hs, hT _ hn, hT _ (by omega)] at e
      exact e
    by_cases hb : k < f.1 + f.2.1
    · have e := tab (k - j) (by omega)
      have a1 : j + (k - j) = k := by omega
      rw [a1] at e
      exact e.symm
    · -- beyond the table: k is as f.1 + (k - f.1) % period
      have hmp := Nat.mod_lt (k - f.1) hp
      have e2 : inside f k = inside f (f.1 + (k - f.1) % f.2.1) := by
        unfold inside
        rw [if_neg (by omega), if_neg (by omega), Nat.add_sub_cancel_left, Nat.mod_mod]
      rw [e2]
      have e3 := tab (f.1 - j + (k - f.1) % f.2.1) (by omega)
      have a1 : j + (f.1 - j + (k - f.1) % f.2.1) = f.1 + (k - f.1) % f.2.1 := by omega
      rw [a1] at e3
      rw [e3]
      -- s divides the period
      have hlT : 0 < ((expand f).drop f.1).length := by rw [List.length_drop, hL]; omega
      have hd := (lp_spec hlT).2.1.1
      have hs2 : lp ((expand f).drop f.1) = s := by rw [← hs]; rfl
      rw [hs2, List.length_drop, hL, Nat.add_sub_cancel_left] at hd
      have a2 : k - j = f.1 - j + (k - f.1) := by omega
      rw [a2, Nat.add_mod (f.1 - j) ((k - f.1) % f.2.1), Nat.mod_mod_of_dvd _ hd, ← Nat.add_mod]
end WM

end

section
/-! What is asked of such sets, in plain Lean. -/
namespace WM
def mem (p : Nat → Bool) (n : Nat) : List Nat := (List.range n).filter p
def cnt (p : Nat → Bool) (n : Nat) : Nat := (mem p n).length
theorem mem_succ (p : Nat → Bool) (n : Nat) : mem p (n + 1) = mem p n ++ if p n then [n] else [] := by
  unfold mem
  rw [List.range_succ, List.filter_append]
  congr 1
  cases h : p n <;> simp [h]
theorem cnt_succ (p : Nat → Bool) (n : Nat) : cnt p (n + 1) = cnt p n + if p n then 1 else 0 := by
  unfold cnt
  rw [mem_succ, List.length_append]
  cases p n <;> rfl
def below (f : Form) (n : Nat) : Nat := if n ≤ f.1 then (f.2.2.1.filter (fun m => decide (m < n))).length else f.2.2.1.length + (n - f.1) / f.2.1 * f.2.2.2.length + (f.2.2.2.filter fun m => decide (m < (n - f.1) % f.2.1)).length
theorem flt_succ (n : Nat) : ∀ {l : List Nat}, l.Pairwise (· < ·) → (l.filter (fun m => decide (m < n + 1))).length = (l.filter (fun m => decide (m < n))).length + if l.contains n then 1 else 0
  | [], _ => rfl
  | a :: l, h => by
    have h2 := List.pairwise_cons.mp h
    have ih := flt_succ n h2.2
    rw [List.filter_cons, List.filter_cons]
    rcases Nat.lt_trichotomy a n with z | z | z
    · rw [if_pos (decide_eq_true (by omega)), if_pos (decide_eq_true z), List.length_cons, List.length_cons, ih]
      have e : (a :: l).contains n = l.contains n := by
        rw [List.contains_cons]
        have : (n == a) = false := by rw [beq_eq_false_iff_ne]; omega
        rw [this, Bool.false_or]
      rw [e]
      omega
    · subst z
      rw [if_pos (decide_eq_true (by omega)), if_neg (by simp), List.length_cons, ih]
      have e : (a :: l).contains a = true := by simp
      have e2 : l.contains a = false := by
        cases h3 : l.contains a with
        | false => rfl
        | true => exact absurd (h2.1 a (List.contains_iff_mem.mp h3)) (by omega)
      rw [e, e2]
      rfl
    · rw [if_neg (by simp; omega), if_neg (by simp; omega), ih]
      have e : (a :: l).contains n = l.contains n := by
        rw [List.contains_cons]
        have : (n == a) = false := by rw [beq_eq_false_iff_ne]; omega
        rw [this, Bool.false_or]
      rw [e]
theorem flt_all {l : List Nat} {b : Nat} (h : ∀ n ∈ l, n < b) : (l.filter (fun m => decide (m < b))) = l := List.filter_eq_self.mpr fun n hn => decide_eq_true (h n hn)
theorem flt_zero (l : List Nat) : (l.filter (fun m => decide (m < 0))).length = 0 := by
  rw [List.length_eq_zero_iff, List.filter_eq_nil_iff]
  intro n _
  simp
/-- what a form is told to be -/
structure FRt (f : Form) : Prop where
  a1 : f.2.2.1.Pairwise (· < ·)
  a2 : ∀ n ∈ f.2.2.1, n < f.1
  b1 : f.2.2.2.Pairwise (· < ·)
  b2 : ∀ n ∈ f.2.2.2, n < f.2.1
  p0 : 0 < f.2.1
theorem divmod_succ {m p : Nat} (hp : 0 < p) : (m % p + 1 < p ∧ (m + 1) / p = m / p ∧ (m + 1) % p = m % p + 1) ∨ (m % p + 1 = p ∧ (m + 1) / p = m / p + 1 ∧ (m + 1) % p = 0) := by
  have h1 := Nat.mod_lt m hp
  have h2 := Nat.div_add_mod m p
  by_cases h : m % p + 1 < p
  · left
    have := (Nat.div_mod_unique (a := m + 1) (b := p) (c := m % p + 1) (d := m / p) hp).mpr ⟨by omega, h⟩
    exact ⟨h, this.1, this.2⟩
  · right
    have := (Nat.div_mod_unique (a := m + 1) (b := p) (c := 0) (d := m / p + 1) hp).mpr ⟨by rw [Nat.mul_succ]; omega, hp⟩
    exact ⟨by omega, this.1, this.2⟩
theorem below_cnt {f : Form} (h : FRt f) : ∀ n, below f n = cnt (inside f) n
  | 0 => by
    unfold below
    rw [if_pos (Nat.zero_le _), flt_zero]
    rfl
  | n + 1 => by
    rw [cnt_succ, ← below_cnt h n]
    have hg : ∀ m, (m + 1) / f.2.1 * f.2.2.2.length + (f.2.2.2.filter fun k => decide (k < (m + 1) % f.2.1)).length = m / f.2.1 * f.2.2.2.length + (f.2.2.2.filter fun k => decide (k < m % f.2.1)).length + if f.2.2.2.contains (m % f.2.1) then 1 else 0 := fun m => by
      have e := flt_succ (m % f.2.1) h.b1
      rcases divmod_succ (m := m) h.p0 with ⟨_, h2, h3⟩ | ⟨h1, h2, h3⟩
      · rw [h2, h3, e]; omega
      · rw [h1, flt_all h.b2] at e
        rw [h2, h3, flt_zero, Nat.succ_mul]
        omega
    unfold below inside
    by_cases h1 : n + 1 ≤ f.1
    · rw [if_pos h1, if_pos (show n ≤ f.1 by omega), if_pos (show n < f.1 by omega)]
      exact flt_succ n h.a1
    · rw [if_neg h1, if_neg (show ¬ n < f.1 by omega)]
      have e := hg (n - f.1)
      have e1 : n - f.1 + 1 = n + 1 - f.1 := by omega
      rw [e1] at e
      by_cases h2 : n ≤ f.1
      · have h3 : n = f.1 := by omega
        rw [if_pos h2]
        have e2 : n - f.1 = 0 := by omega
        rw [e2, Nat.zero_div, Nat.zero_mul, Nat.zero_mod, flt_zero] at e
        rw [h3, flt_all h.a2]
        rw [h3] at e
        rw [Nat.sub_self, Nat.zero_mod]
        omega
      · rw [if_neg h2]
        omega
/-! the least one -/
def leastK (f : Form) : Option Nat := match f.2.2.1 with
  | a :: _ => some a
  | [] => match f.2.2.2 with
    | b :: _ => some (f.1 + b)
    | [] => none
theorem leastK_some {f : Form} (h : FRt f) {m : Nat} (e : leastK f = some m) : inside f m = true ∧ m < f.1 + f.2.1 ∧ ∀ k, k < m → inside f k = false := by
  obtain ⟨i, p, a, b⟩ := f
  obtain ⟨a1, a2, b1, b2, p0⟩ := h
  dsimp only at a1 a2 b1 b2 p0
  unfold leastK at e
  unfold inside
  dsimp only at e ⊢
  cases a with
  | cons x r =>
    cases e
    have h1 := a2 m List.mem_cons_self
    refine ⟨by rw [if_pos h1]; simp, by omega, fun k hk => ?_⟩
    rw [if_pos (by omega)]
    cases h2 : (m :: r).contains k with
    | false => rfl
    | true =>
      rcases List.mem_cons.mp (List.contains_iff_mem.mp h2) with z | z
      · omega
      · have := (List.pairwise_cons.mp a1).1 k z; omega
  | nil =>
    cases b with
    | nil => cases e
    | cons y r =>
      cases e
      have h1 := b2 y List.mem_cons_self
      refine ⟨?_, by omega, fun k hk => ?_⟩
      · rw [if_neg (by omega), Nat.add_sub_cancel_left, Nat.mod_eq_of_lt h1]
        simp
      · by_cases hk2 : k < i
        · rw [if_pos hk2]; rfl
        · rw [if_neg hk2, Nat.mod_eq_of_lt (by omega)]
          cases h2 : (y :: r).contains (k - i) with
          | false => rfl
          | true =>
            rcases List.mem_cons.mp (List.contains_iff_mem.mp h2) with z | z
            · omega
            · have := (List.pairwise_cons.mp b1).1 _ z; omega
theorem leastK_none {f : Form} (e : leastK f = none) : ∀ k, inside f k = false := by
  obtain ⟨i, p, a, b⟩ := f
  unfold leastK at e
  unfold inside
  dsimp only at e ⊢
  cases a with
  | cons x r => cases e
  | nil =>
    cases b with
    | nil => intro k; split <;> rfl
    | cons y r => cases e
theorem mem_prefix (p : Nat → Bool) {a b : Nat} (h : a ≤ b) : ∃ t, mem p b = mem p a ++ t ∧ ∀ n ∈ t, a ≤ n ∧ p n = true := by
  obtain ⟨d, rfl⟩ : ∃ d, b = a + d := ⟨b - a, by omega⟩
  clear h
  induction d with
  | zero => exact ⟨[], by simp, by simp⟩
  | succ d ih =>
    obtain ⟨t, e, ht⟩ := ih
    refine ⟨t ++ (if p (a + d) then [a + d] else []), ?_, fun n hn => ?_⟩
    · rw [← Nat.add_assoc, mem_succ, e, List.append_assoc]
    · rcases List.mem_append.mp hn with z | z
      · exact ht n z
      · cases h2 : p (a + d) with
        | false => rw [h2] at z; cases z
        | true =>
          rw [h2] at z
          simp at z
          rw [z]
          exact ⟨by omega, h2⟩
theorem mem_mem {p : Nat → Bool} {n k : Nat} : k ∈ mem p n ↔ k < n ∧ p k = true := by
  unfold mem
  rw [List.mem_filter, List.mem_range]
theorem mem_none {p : Nat → Bool} {a b : Nat} (h : a ≤ b) (hn : ∀ k, a ≤ k → p k = false) : mem p b = mem p a := by
  obtain ⟨t, e, ht⟩ := mem_prefix p h
  cases t with
  | nil => rw [e, List.append_nil]
  | cons x t =>
    have := ht x List.mem_cons_self
    rw [hn x this.1] at this
    cases this.2
theorem mem_head {p : Nat → Bool} {m N : Nat} (h1 : p m = true) (h2 : m < N) (h3 : ∀ k, k < m → p k = false) : (mem p N).head? = some m := by
  obtain ⟨t, e, _⟩ := mem_prefix p (show m + 1 ≤ N by omega)
  have e0 : mem p m = [] := by
    unfold mem
    rw [List.filter_eq_nil_iff]
    intro k hk
    rw [h3 k (List.mem_range.mp hk)]
    simp
  rw [e, mem_succ, e0, h1]
  rfl
theorem mem_nil {p : Nat → Bool} (h : ∀ k, p k = false) (N : Nat) : mem p N = [] := by
  unfold mem
  rw [List.filter_eq_nil_iff]
  intro k _
  rw [h k]
  simp
/-- two ways to take the first ones -/
def Cut (p : Nat → Bool) (many S : Nat) : Prop := many ≤ (mem p S).length ∨ ∀ k, S ≤ k → p k = false
theorem Cut.up {p : Nat → Bool} {many S B : Nat} (h : Cut p many S) (hb : S ≤ B) : (mem p B).take many = (mem p S).take many := by
  rcases h with h | h
  · obtain ⟨t, e, _⟩ := mem_prefix p hb
    rw [e, List.take_append_of_le_length h]
  · rw [mem_none hb h]
theorem Cut.same {p : Nat → Bool} {many S T : Nat} (h : Cut p many S) (g : Cut p many T) : (mem p S).take many = (mem p T).take many := by
  rw [← h.up (Nat.le_max_left S T), ← g.up (Nat.le_max_right S T)]
theorem mem_firsts {f : Form} (h : FRt f) : mem (inside f) f.1 = f.2.2.1 := by
  have key : ∀ n, n ≤ f.1 → mem (inside f) n = f.2.2.1.filter fun m => decide (m < n) := fun n hn => by
    induction n with
    | zero =>
      refine (List.length_eq_zero_iff.mp ?_).symm
      exact flt_zero _
    | succ n ih =>
      rw [mem_succ, ih (by omega)]
      have hi : inside f n = f.2.2.1.contains n := by unfold inside; rw [if_pos (by omega)]
      rw [hi]
      clear ih hi
      have h1 := h.a1
      generalize f.2.2.1 = l at h1
      induction l with
      | nil => rfl
      | cons a l ih =>
        have h2 := List.pairwise_cons.mp h1
        rw [List.filter_cons, List.filter_cons]
        rcases Nat.lt_trichotomy a n with z | z | z
        · rw [if_pos (decide_eq_true z), if_pos (decide_eq_true (by omega)), List.cons_append]
          have e : (a :: l).contains n = l.contains n := by
            rw [List.contains_cons]
            have : (n == a) = false := by rw [beq_eq_false_iff_ne]; omega
            rw [this, Bool.false_or]
          rw [e, ih h2.2]
        · subst z
          have e1 : (l.filter fun m => decide (m < a)) = [] := by
            rw [List.filter_eq_nil_iff]
            intro k hk
            have := h2.1 k hk
            simp
            omega
          have e2 : (l.filter fun m => decide (m < a + 1)) = [] := by
            rw [List.filter_eq_nil_iff]
            intro k hk
            have := h2.1 k hk
            simp
            omega
          rw [if_neg (by simp), if_pos (decide_eq_true (by omega)), e1, e2]
          simp
        · have e : (a :: l).contains n = l.contains n := by
            rw [List.contains_cons]
            have : (n == a) = false := by rw [beq_eq_false_iff_ne]; omega
            rw [this, Bool.false_or]
          rw [if_neg (show ¬ decide (a < n) = true by simp; omega), if_neg (show ¬ decide (a < n + 1) = true by simp; omega), e, ih h2.2]
  rw [key f.1 (Nat.le_refl _), flt_all h.a2]
theorem mem_block {f : Form} (h : FRt f) (t : Nat) : mem (inside f) (f.1 + t * f.2.1 + f.2.1) = mem (inside f) (f.1 + t * f.2.1) ++ f.2.2.2.map fun n => f.1 + t * f.2.1 + n := by
  have key : ∀ n, n ≤ f.2.1 → mem (inside f) (f.1 + t * f.2.1 + n) = mem (inside f) (f.1 + t * f.2.1) ++ (mem f.2.2.2.contains n).map fun n => f.1 + t * f.2.1 + n := fun n hn => by
    induction n with
    | zero => simp [mem]
    | succ n ih =>
      rw [← Nat.add_assoc, mem_succ, ih (by omega), mem_succ, List.map_append, List.append_assoc]
      congr 2
      have hi : inside f (f.1 + t * f.2.1 + n) = f.2.2.2.contains n := by
        unfold inside
        rw [if_neg (by omega)]
        have e : f.1 + t * f.2.1 + n - f.1 = n + t * f.2.1 := by omega
        rw [e, Nat.add_mul_mod_self_right, Nat.mod_eq_of_lt (by omega)]
      rw [hi]
      cases f.2.2.2.contains n <;> rfl
  rw [key f.2.1 (Nat.le_refl _)]
  congr 2
  have := mem_firsts (f := (f.2.1, 1, f.2.2.2, [])) ⟨h.b1, h.b2, List.Pairwise.nil, by simp, Nat.one_pos⟩
  refine Eq.trans ?_ this
  unfold mem
  refine List.filter_congr fun n hn => ?_
  rw [List.mem_range] at hn
  unfold inside
  dsimp only
  rw [if_pos hn]
theorem mem_many {f : Form} (h : FRt f) (hb : f.2.2.2 ≠ []) : ∀ t, t ≤ (mem (inside f) (f.1 + t * f.2.1)).length
  | 0 => Nat.zero_le _
  | t + 1 => by
    have ih := mem_many h hb t
    have e := mem_block h t
    have e2 : f.1 + (t + 1) * f.2.1 = f.1 + t * f.2.1 + f.2.1 := by rw [Nat.succ_mul]; omega
    rw [e2, e, List.length_append, List.length_map]
    have := List.length_pos_iff.mpr hb
    omega
/-! where it lasts -/
def down (p : Nat → Bool) : Nat → Nat
  | 0 => 0
  | n + 1 => if p n then down p n else n + 1
theorem down_le (p : Nat → Bool) : ∀ n, down p n ≤ n
  | 0 => Nat.le_refl _
  | n + 1 => by
    unfold down
    split
    · exact Nat.le_succ_of_le (down_le p n)
    · exact Nat.le_refl _
theorem down_step {p : Nat → Bool} {n : Nat} (h : 0 < n) (e : p (n - 1) = true) : down p n = down p (n - 1) := by
  obtain ⟨m, rfl⟩ : ∃ m, n = m + 1 := ⟨n - 1, by omega⟩
  rw [Nat.add_sub_cancel] at e ⊢
  show (if p m then down p m else m + 1) = _
  rw [e, if_pos rfl]
theorem down_stop {p : Nat → Bool} {n : Nat} (h : n = 0 ∨ p (n - 1) = false) : down p n = n := by
  cases n with
  | zero => rfl
  | succ m =>
    rcases h with h | h
    · cases h
    · rw [Nat.add_sub_cancel] at h
      show (if p m then down p m else m + 1) = _
      rw [h]
      rfl
theorem down_eq {p : Nat → Bool} {j : Nat} : ∀ {n : Nat}, j ≤ n → (∀ k, j ≤ k → k < n → p k = true) → (j = 0 ∨ p (j - 1) = false) → down p n = j
  | 0, h1, _, _ => by rw [Nat.le_zero.mp h1]; rfl
  | n + 1, h1, h2, h3 => by
    by_cases e : j = n + 1
    · rw [e] at h3 ⊢
      exact down_stop h3
    · rw [down_step (by omega) (by rw [Nat.add_sub_cancel]; exact h2 n (by omega) (by omega)), Nat.add_sub_cancel]
      exact down_eq (by omega) (fun k a b => h2 k a (by omega)) h3
theorem flt_le (l : List Nat) (h : l.Pairwise (· < ·)) : ∀ n, (l.filter fun m => decide (m < n)).length ≤ n
  | 0 => by rw [flt_zero]; exact Nat.le_refl _
  | n + 1 => by
    rw [flt_succ n h]
    have := flt_le l h n
    split <;> omega
theorem full_iff {l : List Nat} {p : Nat} (h : l.Pairwise (· < ·)) (hb : ∀ n ∈ l, n < p) : l.length = p ↔ ∀ r, r < p → l.contains r = true := by
  have key : ∀ n, (l.filter fun m => decide (m < n)).length = n ↔ ∀ r, r < n → l.contains r = true := fun n => by
    induction n with
    | zero => exact ⟨fun _ r hr => by omega, fun _ => flt_zero l⟩
    | succ n ih =>
      have e := flt_succ n h
      have hle := flt_le l h n
      constructor
      · intro z r hr
        rw [e] at z
        cases hc : l.contains n with
        | false => rw [hc] at z; simp at z; omega
        | true =>
          rw [hc] at z
          have z : (l.filter fun m => decide (m < n)).length = n := by simp at z; omega
          by_cases hrn : r = n
          · rw [hrn]; exact hc
          · exact ih.mp z r (by omega)
      · intro z
        rw [e, ih.mpr fun r hr => z r (by omega), z n (by omega)]
        rfl
  rw [← key p, flt_all hb]
/-- from its start on all are members (v = true) or none (v = false) -/
def Lasts (f : Form) (v : Bool) : Prop := ∀ k, f.1 ≤ k → inside f k = v
theorem lasts_true {f : Form} (h : FRt f) : f.2.2.2.length = f.2.1 ↔ Lasts f true := by
  rw [full_iff h.b1 h.b2]
  constructor
  · intro z k hk
    unfold inside
    rw [if_neg (by omega)]
    exact z _ (Nat.mod_lt _ h.p0)
  · intro z r hr
    have := z (f.1 + r) (by omega)
    unfold inside at this
    rw [if_neg (by omega), Nat.add_sub_cancel_left, Nat.mod_eq_of_lt hr] at this
    exact this
theorem lasts_false {f : Form} (h : FRt f) : f.2.2.2 = [] ↔ Lasts f false := by
  constructor
  · intro z k hk
    unfold inside
    rw [if_neg (by omega), z]
    rfl
  · intro z
    cases hb : f.2.2.2 with
    | nil => rfl
    | cons b r =>
      have h1 : b < f.2.1 := h.b2 b (by rw [hb]; exact List.mem_cons_self)
      have := z (f.1 + b) (by omega)
      unfold inside at this
      rw [if_neg (by omega), Nat.add_sub_cancel_left, Nat.mod_eq_of_lt h1, hb] at this
      simp at this
theorem inside_per {f : Form} {k : Nat} (hk : f.1 ≤ k) : ∀ t, inside f (k + t * f.2.1) = inside f k := fun t => by
  unfold inside
  rw [if_neg (by omega), if_neg (by omega), show k + t * f.2.1 - f.1 = k - f.1 + t * f.2.1 by omega, Nat.add_mul_mod_self_right]
abbrev keptF (f : Form) : Form := redu (expand f) f.1
theorem kept_le {f : Form} (h : 0 < f.2.1) : (keptF f).1 ≤ f.1 ∧ 0 < (keptF f).2.1 ∧ (keptF f).2.1 ≤ f.2.1 := by
  have hi : f.1 < (expand f).length := by rw [expand_len]; omega
  obtain ⟨h1, h2, h3⟩ := redu_shape hi
  rw [expand_len] at h3
  exact ⟨h1, h2, by show (redu (expand f) f.1).2.1 ≤ f.2.1; omega⟩
theorem kept_lasts {f : Form} (h : 0 < f.2.1) (v : Bool) : Lasts (keptF f) v ↔ Lasts f v := by
  obtain ⟨h1, h2, h3⟩ := kept_le h
  have hs := fun k => redu_same (f := f) h k
  constructor
  · intro z k hk
    rw [← hs]
    exact z k (by omega)
  · intro z k hk
    have e := inside_per hk f.1
    rw [← e, hs]
    have : f.1 ≤ f.1 * (keptF f).2.1 := Nat.le_mul_of_pos_right _ h2
    exact z _ (by omega)
theorem kept_start {f : Form} (h : 0 < f.2.1) {v : Bool} (z : Lasts f v) : down (fun k => inside f k == v) f.1 = (keptF f).1 := by
  obtain ⟨h1, h2, h3⟩ := kept_le h
  have zk := (kept_lasts h v).mpr z
  have hs := fun k => redu_same (f := f) h k
  refine down_eq h1 (fun k a b => ?_) ?_
  · rw [← hs, zk k a]
    simp
  · have hi : f.1 < (expand f).length := by rw [expand_len]; omega
    rcases back_stop (expand f) (lp ((expand f).drop f.1)) f.1 with e | e
    · exact .inl e
    · by_cases h0 : (keptF f).1 = 0
      · exact .inl h0
      · right
        have e : (expand f).getD ((keptF f).1 - 1) false ≠ (expand f).getD ((keptF f).1 - 1 + (keptF f).2.1) false := e
        have g1 : (keptF f).1 - 1 < f.1 + f.2.1 := by omega
        have g2 : (keptF f).1 - 1 + (keptF f).2.1 < f.1 + f.2.1 := by omega
        rw [expand_getD g1, expand_getD g2] at e
        have e2 : inside f ((keptF f).1 - 1 + (keptF f).2.1) = v := by rw [← hs]; exact zk _ (by omega)
        rw [e2] at e
        simpa using e
theorem kept_rt {f : Form} (h : 0 < f.2.1) : FRt (keptF f) := by
  obtain ⟨h1, h2, h3⟩ := kept_le h
  exact ⟨List.Pairwise.filter _ List.pairwise_lt_range, fun n hn => List.mem_range.mp (List.mem_filter.mp hn).1, List.Pairwise.filter _ List.pairwise_lt_range, fun n hn => List.mem_range.mp (List.mem_filter.mp hn).1, h2⟩
theorem inside_kept {f : Form} (h : 0 < f.2.1) : inside (keptF f) = inside f := funext fun k => redu_same h k
/-- the same count by both -/
theorem below_kept {f : Form} (h : FRt f) (n : Nat) : below (keptF f) n = below f n := by
  rw [below_cnt (kept_rt h.p0), below_cnt h, inside_kept h.p0]
theorem least_kept {f : Form} (h : FRt f) : leastK (keptF f) = (mem (inside f) (f.1 + 2 * f.2.1)).head? := by
  obtain ⟨h1, h2, h3⟩ := kept_le h.p0
  cases e : leastK (keptF f) with
  | none =>
    have := leastK_none e
    rw [inside_kept h.p0] at this
    rw [mem_nil this]
    rfl
  | some m =>
    obtain ⟨a, b, c⟩ := leastK_some (kept_rt h.p0) e
    rw [inside_kept h.p0] at a c
    rw [mem_head a (by omega) c]
end WM

end

section
set_option maxHeartbeats 4000000
namespace K65
open PySem L2 BV
def topS (i : Nat) : Stmt := PySem.Challenge.pw_dwindlewise_k65_whole_number_sets_asked.main.body.getD i (.Pass ⟨0, 0, 0, 0⟩)
abbrev s_is_listed : Stmt := topS 11
abbrev N_is_listed : List Str := ["thing"]
theorem sc_is_listed : FnScope N_is_listed ["thing"] (defScope s_is_listed) := ⟨rfl, rfl, rfl, by decide +kernel, rfl, by decide +kernel, by decide +kernel⟩
abbrev s__law_source : Stmt := topS 25
abbrev N__law_source : List Str := ["script", "place", "cell", "seed", "one", "number"]
theorem sc__law_source : FnScope N__law_source ["script", "place"] (defScope s__law_source) := ⟨rfl, rfl, rfl, by decide +kernel, rfl, by decide +kernel, by decide +kernel⟩
abbrev s__law_pick : Stmt := topS 26
abbrev N__law_pick : List Str := ["source", "many", "digit", "mixed"]
theorem sc__law_pick : FnScope N__law_pick ["source", "many"] (defScope s__law_pick) := ⟨rfl, rfl, rfl, by decide +kernel, rfl, by decide +kernel, by decide +kernel⟩
abbrev s_law : Stmt := topS 31
abbrev N_law : List Str := ["script", "lap"]
theorem sc_law : FnScope N_law ["script"] (defScope s_law) := ⟨rfl, rfl, rfl, by decide +kernel, rfl, by decide +kernel, by decide +kernel⟩
abbrev s_is_integer : Stmt := topS 9
abbrev N_is_integer : List Str := ["thing", "low", "high"]
theorem sc_is_integer : FnScope N_is_integer ["thing", "low", "high"] (defScope s_is_integer) := ⟨rfl, rfl, rfl, by decide +kernel, rfl, by decide +kernel, by decide +kernel⟩
abbrev s_check_number : Stmt := topS 10
abbrev N_check_number : List Str := ["thing", "low", "high"]
theorem sc_check_number : FnScope N_check_number ["thing", "low", "high"] (defScope s_check_number) := ⟨rfl, rfl, rfl, by decide +kernel, rfl, by decide +kernel, by decide +kernel⟩
abbrev s_checked_members : Stmt := topS 16
abbrev N_checked_members : List Str := ["thing", "below", "shift", "k"]
theorem sc_checked_members : FnScope N_checked_members ["thing", "below", "shift"] (defScope s_checked_members) := ⟨rfl, rfl, rfl, by decide +kernel, rfl, by decide +kernel, by decide +kernel⟩
abbrev s_least_period : Stmt := topS 17
abbrev N_least_period : List Str := ["row", "size"]
theorem sc_least_period : FnScope N_least_period ["row"] (defScope s_least_period) := ⟨rfl, rfl, rfl, by decide +kernel, rfl, by decide +kernel, by decide +kernel⟩
abbrev s_reduced : Stmt := topS 18
abbrev N_reduced : List Str := ["told", "index", "size", "row", "firsts", "number"]
theorem sc_reduced : FnScope N_reduced ["told", "index"] (defScope s_reduced) := ⟨rfl, rfl, rfl, by decide +kernel, rfl, by decide +kernel, by decide +kernel⟩
abbrev s_is_member : Stmt := topS 19
abbrev N_is_member : List Str := ["form", "number", "index", "period", "firsts", "later"]
theorem sc_is_member : FnScope N_is_member ["form", "number"] (defScope s_is_member) := ⟨rfl, rfl, rfl, by decide +kernel, rfl, by decide +kernel, by decide +kernel⟩
abbrev s_NumberSetu_initu : Stmt := inClass (topS 20) 0
abbrev N_NumberSetu_initu : List Str := ["self", "since", "period", "firsts", "later", "told", "form", "number"]
theorem sc_NumberSetu_initu : FnScope N_NumberSetu_initu ["self", "since", "period", "firsts", "later"] (defScope s_NumberSetu_initu) := ⟨rfl, rfl, rfl, by decide +kernel, rfl, by decide +kernel, by decide +kernel⟩
abbrev s_NumberSetu_containsu : Stmt := inClass (topS 20) 2
abbrev N_NumberSetu_containsu : List Str := ["self", "number"]
theorem sc_NumberSetu_containsu : FnScope N_NumberSetu_containsu ["self", "number"] (defScope s_NumberSetu_containsu) := ⟨rfl, rfl, rfl, by decide +kernel, rfl, by decide +kernel, by decide +kernel⟩
abbrev s_NumberSet_least : Stmt := inClass (topS 20) 6
abbrev N_NumberSet_least : List Str := ["self"]
theorem sc_NumberSet_least : FnScope N_NumberSet_least ["self"] (defScope s_NumberSet_least) := ⟨rfl, rfl, rfl, by decide +kernel, rfl, by decide +kernel, by decide +kernel⟩
abbrev s_NumberSet_lasting : Stmt := inClass (topS 20) 7
abbrev N_NumberSet_lasting : List Str := ["self"]
theorem sc_NumberSet_lasting : FnScope N_NumberSet_lasting ["self"] (defScope s_NumberSet_lasting) := ⟨rfl, rfl, rfl, by decide +kernel, rfl, by decide +kernel, by decide +kernel⟩
abbrev s_NumberSet_gone : Stmt := inClass (topS 20) 8
abbrev N_NumberSet_gone : List Str := ["self"]
theorem sc_NumberSet_gone : FnScope N_NumberSet_gone ["self"] (defScope s_NumberSet_gone) := ⟨rfl, rfl, rfl, by decide +kernel, rfl, by decide +kernel, by decide +kernel⟩
abbrev s_NumberSet_listed : Stmt := inClass (topS 20) 9
abbrev N_NumberSet_listed : List Str := ["self", "many", "found", "start", "number"]
theorem sc_NumberSet_listed : FnScope N_NumberSet_listed ["self", "many"] (defScope s_NumberSet_listed) := ⟨rfl, rfl, rfl, by decide +kernel, rfl, by decide +kernel, by decide +kernel⟩
abbrev s_NumberSet_counted : Stmt := inClass (topS 20) 10
abbrev N_NumberSet_counted : List Str := ["self", "number", "rounds", "rest", "near", "one"]
theorem sc_NumberSet_counted : FnScope N_NumberSet_counted ["self", "number"] (defScope s_NumberSet_counted) := ⟨rfl, rfl, rfl, by decide +kernel, rfl, by decide +kernel, by decide +kernel⟩
abbrev s_form_of : Stmt := topS 21
abbrev N_form_of : List Str := ["numbers"]
theorem sc_form_of : FnScope N_form_of ["numbers"] (defScope s_form_of) := ⟨rfl, rfl, rfl, by decide +kernel, rfl, by decide +kernel, by decide +kernel⟩
abbrev s__law_inside : Stmt := topS 27
abbrev N__law_inside : List Str := ["form", "number", "since", "period", "firsts", "later"]
theorem sc__law_inside : FnScope N__law_inside ["form", "number"] (defScope s__law_inside) := ⟨rfl, rfl, rfl, by decide +kernel, rfl, by decide +kernel, by decide +kernel⟩
abbrev s__law_below : Stmt := topS 28
abbrev N__law_below : List Str := ["form", "number", "since", "period", "firsts", "later", "rest", "one"]
theorem sc__law_below : FnScope N__law_below ["form", "number"] (defScope s__law_below) := ⟨rfl, rfl, rfl, by decide +kernel, rfl, by decide +kernel, by decide +kernel⟩
abbrev s__law_refusals : Stmt := topS 29
abbrev N__law_refusals : List Str := ["made", "wrong", "thing", "kind", "worth", "lost", "raised", "ask", "bad"]
theorem sc__law_refusals : FnScope N__law_refusals ["made"] (defScope s__law_refusals) := ⟨rfl, rfl, rfl, by decide +kernel, rfl, by decide +kernel, by decide +kernel⟩
abbrev s__law_once : Stmt := topS 30
abbrev N__law_once : List Str := ["script", "lap", "source", "since", "period", "firsts", "later", "way", "form", "made", "near", "lasting", "gone", "many", "due", "number", "far", "k"]
theorem sc__law_once : FnScope N__law_once ["script", "lap"] (defScope s__law_once) := ⟨rfl, rfl, rfl, by decide +kernel, rfl, by decide +kernel, by decide +kernel⟩
abbrev s_WrongThingu_initu : Stmt := inClass (topS 3) 0
abbrev N_WrongThingu_initu : List Str := ["self", "thing", "__class__"]
theorem sc_WrongThingu_initu : NdefX.NScope N_WrongThingu_initu ["self", "thing"] ["__class__"] (defScope s_WrongThingu_initu) := NdefX.nscope_by (by decide +kernel)
abbrev s_WrongItemu_initu : Stmt := inClass (topS 4) 0
abbrev N_WrongItemu_initu : List Str := ["self", "place", "__class__"]
theorem sc_WrongItemu_initu : NdefX.NScope N_WrongItemu_initu ["self", "place"] ["__class__"] (defScope s_WrongItemu_initu) := NdefX.nscope_by (by decide +kernel)
structure Ad where
  C_NumberSet : Addr
  f_is_listed : Addr
  d_is_listed : FuncData
  f__law_source : Addr
  d__law_source : FuncData
  f__law_pick : Addr
  d__law_pick : FuncData
  f_law : Addr
  d_law : FuncData
  f_is_integer : Addr
  d_is_integer : FuncData
  f_check_number : Addr
  d_check_number : FuncData
  f_checked_members : Addr
  d_checked_members : FuncData
  f_least_period : Addr
  d_least_period : FuncData
  f_reduced : Addr
  d_reduced : FuncData
  f_is_member : Addr
  d_is_member : FuncData
  f_NumberSetu_initu : Addr
  d_NumberSetu_initu : FuncData
  f_NumberSetu_containsu : Addr
  d_NumberSetu_containsu : FuncData
  f_NumberSet_least : Addr
  d_NumberSet_least : FuncData
  f_NumberSet_lasting : Addr
  d_NumberSet_lasting : FuncData
  f_NumberSet_gone : Addr
  d_NumberSet_gone : FuncData
  f_NumberSet_listed : Addr
  d_NumberSet_listed : FuncData
  f_NumberSet_counted : Addr
  d_NumberSet_counted : FuncData
  f_form_of : Addr
  d_form_of : FuncData
  f__law_inside : Addr
  d__law_inside : FuncData
  f__law_below : Addr
  d__law_below : FuncData
  f__law_refusals : Addr
  d__law_refusals : FuncData
  f__law_once : Addr
  d__law_once : FuncData
  t_MOST_INDEX : Tok
  t_MOST_MEMBER : Tok
  t_MOST_LISTED : Tok
  C_BadNumber : Addr
  C_BadMembers : Addr
  C_WrongThing : Addr
  C_WrongItem : Addr
  f_WrongThingu_initu : Addr
  d_WrongThingu_initu : FuncData
  cc_WrongThingu_initu : Addr
  cda_WrongThingu_initu : Addr
  f_WrongItemu_initu : Addr
  d_WrongItemu_initu : FuncData
  cc_WrongItemu_initu : Addr
  cda_WrongItemu_initu : Addr
structure Tx (P : Program) (K : PySem.W.Frag) (mg : Str → Option Value) (a : Ad) : Prop where
  n_abs : mg "abs" = none
  n_bool : mg "bool" = none
  n_divmod : mg "divmod" = none
  n_int : mg "int" = none
  n_isinstance : mg "isinstance" = none
  n_len : mg "len" = none
  n_list : mg "list" = none
  n_max : mg "max" = none
  n_range : mg "range" = none
  n_repr : mg "repr" = none
  n_str : mg "str" = none
  n_tuple : mg "tuple" = none
  c_MOST_INDEX : mg "MOST_INDEX" = some (Value.int 1000 a.t_MOST_INDEX)
  c_MOST_MEMBER : mg "MOST_MEMBER" = some (Value.int 10000000000000000000000000000000000000000 a.t_MOST_MEMBER)
  c_MOST_LISTED : mg "MOST_LISTED" = some (Value.int 200 a.t_MOST_LISTED)
  g_is_listed : mg "is_listed" = some (.ref a.f_is_listed)
  k_is_listed : PySem.W.keepIn K (.ref a.f_is_listed) = true
  F_is_listed : Fun K "is_listed" "is_listed" s_is_listed a.f_is_listed a.d_is_listed
  b_is_listed : Binds K a.d_is_listed ["thing"] []
  g__law_source : mg "_law_source" = some (.ref a.f__law_source)
  k__law_source : PySem.W.keepIn K (.ref a.f__law_source) = true
  F__law_source : Fun K "_law_source" "_law_source" s__law_source a.f__law_source a.d__law_source
  b__law_source : Binds K a.d__law_source ["script", "place"] []
  g__law_pick : mg "_law_pick" = some (.ref a.f__law_pick)
  k__law_pick : PySem.W.keepIn K (.ref a.f__law_pick) = true
  F__law_pick : Fun K "_law_pick" "_law_pick" s__law_pick a.f__law_pick a.d__law_pick
  b__law_pick : Binds K a.d__law_pick ["source", "many"] []
  g_law : mg "law" = some (.ref a.f_law)
  k_law : PySem.W.keepIn K (.ref a.f_law) = true
  F_law : Fun K "law" "law" s_law a.f_law a.d_law
  b_law : Binds K a.d_law ["script"] []
  g_is_integer : mg "is_integer" = some (.ref a.f_is_integer)
  k_is_integer : PySem.W.keepIn K (.ref a.f_is_integer) = true
  F_is_integer : Fun K "is_integer" "is_integer" s_is_integer a.f_is_integer a.d_is_integer
  b_is_integer : Binds K a.d_is_integer ["thing", "low", "high"] []
  g_check_number : mg "check_number" = some (.ref a.f_check_number)
  k_check_number : PySem.W.keepIn K (.ref a.f_check_number) = true
  F_check_number : Fun K "check_number" "check_number" s_check_number a.f_check_number a.d_check_number
  b_check_number : Binds K a.d_check_number ["thing", "low", "high"] []
  g_checked_members : mg "checked_members" = some (.ref a.f_checked_members)
  k_checked_members : PySem.W.keepIn K (.ref a.f_checked_members) = true
  F_checked_members : Fun K "checked_members" "checked_members" s_checked_members a.f_checked_members a.d_checked_members
  b_checked_members : Binds K a.d_checked_members ["thing", "below", "shift"] []
  g_least_period : mg "least_period" = some (.ref a.f_least_period)
  k_least_period : PySem.W.keepIn K (.ref a.f_least_period) = true
  F_least_period : Fun K "least_period" "least_period" s_least_period a.f_least_period a.d_least_period
  b_least_period : Binds K a.d_least_period ["row"] []
  g_reduced : mg "reduced" = some (.ref a.f_reduced)
  k_reduced : PySem.W.keepIn K (.ref a.f_reduced) = true
  F_reduced : Fun K "reduced" "reduced" s_reduced a.f_reduced a.d_reduced
  b_reduced : Binds K a.d_reduced ["told", "index"] []
  g_is_member : mg "is_member" = some (.ref a.f_is_member)
  k_is_member : PySem.W.keepIn K (.ref a.f_is_member) = true
  F_is_member : Fun K "is_member" "is_member" s_is_member a.f_is_member a.d_is_member
  b_is_member : Binds K a.d_is_member ["form", "number"] []
  k_NumberSetu_initu : PySem.W.keepIn K (.ref a.f_NumberSetu_initu) = true
  F_NumberSetu_initu : Fun K "__init__" "NumberSet.__init__" s_NumberSetu_initu a.f_NumberSetu_initu a.d_NumberSetu_initu
  b_NumberSetu_initu : Binds K a.d_NumberSetu_initu ["self", "since", "period", "firsts", "later"] []
  k_NumberSetu_containsu : PySem.W.keepIn K (.ref a.f_NumberSetu_containsu) = true
  F_NumberSetu_containsu : Fun K "__contains__" "NumberSet.__contains__" s_NumberSetu_containsu a.f_NumberSetu_containsu a.d_NumberSetu_containsu
  b_NumberSetu_containsu : Binds K a.d_NumberSetu_containsu ["self", "number"] []
  k_NumberSet_least : PySem.W.keepIn K (.ref a.f_NumberSet_least) = true
  F_NumberSet_least : Fun K "least" "NumberSet.least" s_NumberSet_least a.f_NumberSet_least a.d_NumberSet_least
  b_NumberSet_least : Binds K a.d_NumberSet_least ["self"] []
  k_NumberSet_lasting : PySem.W.keepIn K (.ref a.f_NumberSet_lasting) = true
  F_NumberSet_lasting : Fun K "lasting" "NumberSet.lasting" s_NumberSet_lasting a.f_NumberSet_lasting a.d_NumberSet_lasting
  b_NumberSet_lasting : Binds K a.d_NumberSet_lasting ["self"] []
  k_NumberSet_gone : PySem.W.keepIn K (.ref a.f_NumberSet_gone) = true
  F_NumberSet_gone : Fun K "gone" "NumberSet.gone" s_NumberSet_gone a.f_NumberSet_gone a.d_NumberSet_gone
  b_NumberSet_gone : Binds K a.d_NumberSet_gone ["self"] []
  k_NumberSet_listed : PySem.W.keepIn K (.ref a.f_NumberSet_listed) = true
  F_NumberSet_listed : Fun K "listed" "NumberSet.listed" s_NumberSet_listed a.f_NumberSet_listed a.d_NumberSet_listed
  b_NumberSet_listed : Binds K a.d_NumberSet_listed ["self", "many"] []
  k_NumberSet_counted : PySem.W.keepIn K (.ref a.f_NumberSet_counted) = true
  F_NumberSet_counted : Fun K "counted" "NumberSet.counted" s_NumberSet_counted a.f_NumberSet_counted a.d_NumberSet_counted
  b_NumberSet_counted : Binds K a.d_NumberSet_counted ["self", "number"] []
  g_form_of : mg "form_of" = some (.ref a.f_form_of)
  k_form_of : PySem.W.keepIn K (.ref a.f_form_of) = true
  F_form_of : Fun K "form_of" "form_of" s_form_of a.f_form_of a.d_form_of
  b_form_of : Binds K a.d_form_of ["numbers"] []
  g__law_inside : mg "_law_inside" = some (.ref a.f__law_inside)
  k__law_inside : PySem.W.keepIn K (.ref a.f__law_inside) = true
  F__law_inside : Fun K "_law_inside" "_law_inside" s__law_inside a.f__law_inside a.d__law_inside
  b__law_inside : Binds K a.d__law_inside ["form", "number"] []
  g__law_below : mg "_law_below" = some (.ref a.f__law_below)
  k__law_below : PySem.W.keepIn K (.ref a.f__law_below) = true
  F__law_below : Fun K "_law_below" "_law_below" s__law_below a.f__law_below a.d__law_below
  b__law_below : Binds K a.d__law_below ["form", "number"] []
  g__law_refusals : mg "_law_refusals" = some (.ref a.f__law_refusals)
  k__law_refusals : PySem.W.keepIn K (.ref a.f__law_refusals) = true
  F__law_refusals : Fun K "_law_refusals" "_law_refusals" s__law_refusals a.f__law_refusals a.d__law_refusals
  b__law_refusals : Binds K a.d__law_refusals ["made"] []
  g__law_once : mg "_law_once" = some (.ref a.f__law_once)
  k__law_once : PySem.W.keepIn K (.ref a.f__law_once) = true
  F__law_once : Fun K "_law_once" "_law_once" s__law_once a.f__law_once a.d__law_once
  b__law_once : Binds K a.d__law_once ["script", "lap"] []
  g_NumberSet : mg "NumberSet" = some (.ref a.C_NumberSet)
  l_NumberSet : Cls K a.C_NumberSet
  m_NumberSet : Mk K a.C_NumberSet a.f_NumberSetu_initu
  x_NumberSet_since : NoAttr K a.C_NumberSet "since"
  x_NumberSet_period : NoAttr K a.C_NumberSet "period"
  x_NumberSet_firsts : NoAttr K a.C_NumberSet "firsts"
  x_NumberSet_later : NoAttr K a.C_NumberSet "later"
  p_NumberSetu_containsu : Spm K a.C_NumberSet "__contains__" a.f_NumberSetu_containsu
  h_NumberSet_counted : Meth K a.C_NumberSet "counted" a.f_NumberSet_counted
  h_NumberSet_gone : Meth K a.C_NumberSet "gone" a.f_NumberSet_gone
  h_NumberSet_lasting : Meth K a.C_NumberSet "lasting" a.f_NumberSet_lasting
  h_NumberSet_least : Meth K a.C_NumberSet "least" a.f_NumberSet_least
  h_NumberSet_listed : Meth K a.C_NumberSet "listed" a.f_NumberSet_listed
  g_BadNumber : mg "BadNumber" = some (.ref a.C_BadNumber)
  g_BadMembers : mg "BadMembers" = some (.ref a.C_BadMembers)
  g_WrongThing : mg "WrongThing" = some (.ref a.C_WrongThing)
  g_WrongItem : mg "WrongItem" = some (.ref a.C_WrongItem)
  oe_BadNumber : OexC K a.C_BadNumber
  xf_BadNumber : XfC K a.C_BadNumber
  xn_BadNumber_thing : PySem.W.findIn K (.ref a.C_BadNumber) "thing" = some none
  oi_BadNumber : PySem.W.findIn K (.ref a.C_BadNumber) "__init__" = some (some (.ref a.f_WrongThingu_initu))
  sx_BadNumber : SupX K a.C_BadNumber a.C_WrongThing
  xm_BadNumber_BadNumber : PySem.W.exmOne K (.ref a.C_BadNumber) (.ref a.C_BadNumber) = some true
  xm_BadNumber_BadMembers : PySem.W.exmOne K (.ref a.C_BadNumber) (.ref a.C_BadMembers) = some false
  oe_BadMembers : OexC K a.C_BadMembers
  xf_BadMembers : XfC K a.C_BadMembers
  xn_BadMembers_place : PySem.W.findIn K (.ref a.C_BadMembers) "place" = some none
  oi_BadMembers : PySem.W.findIn K (.ref a.C_BadMembers) "__init__" = some (some (.ref a.f_WrongItemu_initu))
  sx_BadMembers : SupX K a.C_BadMembers a.C_WrongItem
  xm_BadMembers_BadNumber : PySem.W.exmOne K (.ref a.C_BadMembers) (.ref a.C_BadNumber) = some false
  xm_BadMembers_BadMembers : PySem.W.exmOne K (.ref a.C_BadMembers) (.ref a.C_BadMembers) = some true
  F_WrongThingu_initu : FunS K "__init__" "WrongThing.__init__" s_WrongThingu_initu a.f_WrongThingu_initu a.cc_WrongThingu_initu a.cda_WrongThingu_initu a.d_WrongThingu_initu
  b_WrongThingu_initu : Binds K a.d_WrongThingu_initu ["self", "thing"] []
  ot_WrongThingu_initu : PySem.W.typeIn K (.ref a.f_WrongThingu_initu) = some (.type "function")
  su_WrongThingu_initu : SupC P K mg a.C_WrongThing a.cc_WrongThingu_initu a.cda_WrongThingu_initu
  F_WrongItemu_initu : FunS K "__init__" "WrongItem.__init__" s_WrongItemu_initu a.f_WrongItemu_initu a.cc_WrongItemu_initu a.cda_WrongItemu_initu a.d_WrongItemu_initu
  b_WrongItemu_initu : Binds K a.d_WrongItemu_initu ["self", "place"] []
  ot_WrongItemu_initu : PySem.W.typeIn K (.ref a.f_WrongItemu_initu) = some (.type "function")
  su_WrongItemu_initu : SupC P K mg a.C_WrongItem a.cc_WrongItemu_initu a.cda_WrongItemu_initu
theorem tx_mk {P : Program} {K : PySem.W.Frag} {h : Heap} {mg : Str → Option Value} (X : K.In h) (G : h.Ns mainGlobals mg) {C_NumberSet f_is_listed f__law_source f__law_pick f_law f_is_integer f_check_number f_checked_members f_least_period f_reduced f_is_member f_NumberSetu_initu f_NumberSetu_containsu f_NumberSet_least f_NumberSet_lasting f_NumberSet_gone f_NumberSet_listed f_NumberSet_counted f_form_of f__law_inside f__law_below f__law_refusals f__law_once C_BadNumber C_BadMembers C_WrongThing C_WrongItem f_WrongThingu_initu cc_WrongThingu_initu cda_WrongThingu_initu f_WrongItemu_initu cc_WrongItemu_initu cda_WrongItemu_initu : Addr}
    {t_MOST_INDEX t_MOST_MEMBER t_MOST_LISTED : Tok}
    {od_is_listed an_is_listed od__law_source an__law_source od__law_pick an__law_pick od_law an_law od_is_integer an_is_integer od_check_number an_check_number od_checked_members an_checked_members od_least_period an_least_period od_reduced an_reduced od_is_member an_is_member od_NumberSetu_initu an_NumberSetu_initu od_NumberSetu_containsu an_NumberSetu_containsu od_NumberSet_least an_NumberSet_least od_NumberSet_lasting an_NumberSet_lasting od_NumberSet_gone an_NumberSet_gone od_NumberSet_listed an_NumberSet_listed od_NumberSet_counted an_NumberSet_counted od_form_of an_form_of od__law_inside an__law_inside od__law_below an__law_below od__law_refusals an__law_refusals od__law_once an__law_once od_WrongThingu_initu an_WrongThingu_initu od_WrongItemu_initu an_WrongItemu_initu : Option Addr} {sl_is_listed sl__law_source sl__law_pick sl_law sl_is_integer sl_check_number sl_checked_members sl_least_period sl_reduced sl_is_member sl_NumberSetu_initu sl_NumberSetu_containsu sl_NumberSet_least sl_NumberSet_lasting sl_NumberSet_gone sl_NumberSet_listed sl_NumberSet_counted sl_form_of sl__law_inside sl__law_below sl__law_refusals sl__law_once sl_WrongThingu_initu sl_WrongItemu_initu : Array (Option Value)} {oc_is_listed kV_is_listed dc_is_listed pm_is_listed cd_is_listed ct_is_listed oc__law_source kV__law_source dc__law_source pm__law_source cd__law_source ct__law_source oc__law_pick kV__law_pick dc__law_pick pm__law_pick cd__law_pick ct__law_pick oc_law kV_law dc_law pm_law cd_law ct_law oc_is_integer kV_is_integer dc_is_integer pm_is_integer cd_is_integer ct_is_integer oc_check_number kV_check_number dc_check_number pm_check_number cd_check_number ct_check_number oc_checked_members kV_checked_members dc_checked_members pm_checked_members cd_checked_members ct_checked_members oc_least_period kV_least_period dc_least_period pm_least_period cd_least_period ct_least_period oc_reduced kV_reduced dc_reduced pm_reduced cd_reduced ct_reduced oc_is_member kV_is_member dc_is_member pm_is_member cd_is_member ct_is_member oc_NumberSetu_initu kV_NumberSetu_initu dc_NumberSetu_initu pm_NumberSetu_initu cd_NumberSetu_initu ct_NumberSetu_initu oc_NumberSetu_containsu kV_NumberSetu_containsu dc_NumberSetu_containsu pm_NumberSetu_containsu cd_NumberSetu_containsu ct_NumberSetu_containsu oc_NumberSet_least kV_NumberSet_least dc_NumberSet_least pm_NumberSet_least cd_NumberSet_least ct_NumberSet_least oc_NumberSet_lasting kV_NumberSet_lasting dc_NumberSet_lasting pm_NumberSet_lasting cd_NumberSet_lasting ct_NumberSet_lasting oc_NumberSet_gone kV_NumberSet_gone dc_NumberSet_gone pm_NumberSet_gone cd_NumberSet_gone ct_NumberSet_gone oc_NumberSet_listed kV_NumberSet_listed dc_NumberSet_listed pm_NumberSet_listed cd_NumberSet_listed ct_NumberSet_listed oc_NumberSet_counted kV_NumberSet_counted dc_NumberSet_counted pm_NumberSet_counted cd_NumberSet_counted ct_NumberSet_counted oc_form_of kV_form_of dc_form_of pm_form_of cd_form_of ct_form_of oc__law_inside kV__law_inside dc__law_inside pm__law_inside cd__law_inside ct__law_inside oc__law_below kV__law_below dc__law_below pm__law_below cd__law_below ct__law_below oc__law_refusals kV__law_refusals dc__law_refusals pm__law_refusals cd__law_refusals ct__law_refusals oc__law_once kV__law_once dc__law_once pm__law_once cd__law_once ct__law_once oc_WrongThingu_initu kV_WrongThingu_initu dc_WrongThingu_initu pm_WrongThingu_initu ct_WrongThingu_initu oc_WrongItemu_initu kV_WrongItemu_initu dc_WrongItemu_initu pm_WrongItemu_initu ct_WrongItemu_initu : Value}
    {xnm_BadNumber : Str}
    {xq_BadNumber : Str}
    {xN_BadNumber : Addr}
    {xbs_BadNumber : List Value}
    {xbm_BadNumber : List Value}
    {xsn_BadNumber : List Str}
    {xsub_BadNumber : List Value}
    {xab_BadNumber : Bool}
    {xcol_BadNumber : Option Bool}
    {xdd_BadNumber : Option Addr}
    {xk0_BadNumber : Option Value}
    {xk1_BadNumber : Option Value}
    {xk2_BadNumber : Option Value}
    {xk3_BadNumber : Option Value}
    {xk5_BadNumber : Option Value}
    {xnm_BadMembers : Str}
    {xq_BadMembers : Str}
    {xN_BadMembers : Addr}
    {xbs_BadMembers : List Value}
    {xbm_BadMembers : List Value}
    {xsn_BadMembers : List Str}
    {xsub_BadMembers : List Value}
    {xab_BadMembers : Bool}
    {xcol_BadMembers : Option Bool}
    {xdd_BadMembers : Option Addr}
    {xk0_BadMembers : Option Value}
    {xk1_BadMembers : Option Value}
    {xk2_BadMembers : Option Value}
    {xk3_BadMembers : Option Value}
    {xk5_BadMembers : Option Value}
    {ucl_WrongThingu_initu : Value}
    {udd_WrongThingu_initu : Option Addr}
    {uvs_WrongThingu_initu : Array Value}
    {ucs_WrongThingu_initu : Array (Option Value)}
    {ufl_WrongThingu_initu : Str}
    {utf_WrongThingu_initu : Tok}
    {vcl_WrongThingu_initu : Value}
    {vcd_WrongThingu_initu : Option Addr}
    {vcs_WrongThingu_initu : Array (Option Value)}
    {wcl_WrongThingu_initu : Value}
    {wcd_WrongThingu_initu : Option Addr}
    {wdt_WrongThingu_initu : ClassData}
    {wsl_WrongThingu_initu : Array (Option Value)}
    {ucl_WrongItemu_initu : Value}
    {udd_WrongItemu_initu : Option Addr}
    {uvs_WrongItemu_initu : Array Value}
    {ucs_WrongItemu_initu : Array (Option Value)}
    {ufl_WrongItemu_initu : Str}
    {utf_WrongItemu_initu : Tok}
    {vcl_WrongItemu_initu : Value}
    {vcd_WrongItemu_initu : Option Addr}
    {vcs_WrongItemu_initu : Array (Option Value)}
    {wcl_WrongItemu_initu : Value}
    {wcd_WrongItemu_initu : Option Addr}
    {wdt_WrongItemu_initu : ClassData}
    {wsl_WrongItemu_initu : Array (Option Value)}
    (n_abs : PySem.W.nsIn K mainGlobals "abs" = some none)
    (n_bool : PySem.W.nsIn K mainGlobals "bool" = some none)
    (n_divmod : PySem.W.nsIn K mainGlobals "divmod" = some none)
    (n_int : PySem.W.nsIn K mainGlobals "int" = some none)
    (n_isinstance : PySem.W.nsIn K mainGlobals "isinstance" = some none)
    (n_len : PySem.W.nsIn K mainGlobals "len" = some none)
    (n_list : PySem.W.nsIn K mainGlobals "list" = some none)
    (n_max : PySem.W.nsIn K mainGlobals "max" = some none)
    (n_range : PySem.W.nsIn K mainGlobals "range" = some none)
    (n_repr : PySem.W.nsIn K mainGlobals "repr" = some none)
    (n_str : PySem.W.nsIn K mainGlobals "str" = some none)
    (n_tuple : PySem.W.nsIn K mainGlobals "tuple" = some none)
    (c_MOST_INDEX : PySem.W.nsIn K mainGlobals "MOST_INDEX" = some (some (Value.int 1000 t_MOST_INDEX)))
    (c_MOST_MEMBER : PySem.W.nsIn K mainGlobals "MOST_MEMBER" = some (some (Value.int 10000000000000000000000000000000000000000 t_MOST_MEMBER)))
    (c_MOST_LISTED : PySem.W.nsIn K mainGlobals "MOST_LISTED" = some (some (Value.int 200 t_MOST_LISTED)))
    (a_is_listed : PySem.W.nsIn K mainGlobals "is_listed" = some (some (.ref f_is_listed)))
    (l_is_listed : K.lookup f_is_listed = some ⟨oc_is_listed, od_is_listed, .func (PySem.W.fnOf "is_listed" "is_listed" (defArgs s_is_listed) (defBody s_is_listed) (defScope s_is_listed) .none kV_is_listed dc_is_listed pm_is_listed an_is_listed cd_is_listed ct_is_listed), sl_is_listed⟩)
    (e_is_listed : PySem.W.codeIn K cd_is_listed "is_listed" = true)
    (k_is_listed : PySem.W.keepIn K (.ref f_is_listed) = true)
    (a__law_source : PySem.W.nsIn K mainGlobals "_law_source" = some (some (.ref f__law_source)))
    (l__law_source : K.lookup f__law_source = some ⟨oc__law_source, od__law_source, .func (PySem.W.fnOf "_law_source" "_law_source" (defArgs s__law_source) (defBody s__law_source) (defScope s__law_source) .none kV__law_source dc__law_source pm__law_source an__law_source cd__law_source ct__law_source), sl__law_source⟩)
    (e__law_source : PySem.W.codeIn K cd__law_source "_law_source" = true)
    (k__law_source : PySem.W.keepIn K (.ref f__law_source) = true)
    (a__law_pick : PySem.W.nsIn K mainGlobals "_law_pick" = some (some (.ref f__law_pick)))
    (l__law_pick : K.lookup f__law_pick = some ⟨oc__law_pick, od__law_pick, .func (PySem.W.fnOf "_law_pick" "_law_pick" (defArgs s__law_pick) (defBody s__law_pick) (defScope s__law_pick) .none kV__law_pick dc__law_pick pm__law_pick an__law_pick cd__law_pick ct__law_pick), sl__law_pick⟩)
    (e__law_pick : PySem.W.codeIn K cd__law_pick "_law_pick" = true)
    (k__law_pick : PySem.W.keepIn K (.ref f__law_pick) = true)
    (a_law : PySem.W.nsIn K mainGlobals "law" = some (some (.ref f_law)))
    (l_law : K.lookup f_law = some ⟨oc_law, od_law, .func (PySem.W.fnOf "law" "law" (defArgs s_law) (defBody s_law) (defScope s_law) .none kV_law dc_law pm_law an_law cd_law ct_law), sl_law⟩)
    (e_law : PySem.W.codeIn K cd_law "law" = true)
    (k_law : PySem.W.keepIn K (.ref f_law) = true)
    (a_is_integer : PySem.W.nsIn K mainGlobals "is_integer" = some (some (.ref f_is_integer)))
    (l_is_integer : K.lookup f_is_integer = some ⟨oc_is_integer, od_is_integer, .func (PySem.W.fnOf "is_integer" "is_integer" (defArgs s_is_integer) (defBody s_is_integer) (defScope s_is_integer) .none kV_is_integer dc_is_integer pm_is_integer an_is_integer cd_is_integer ct_is_integer), sl_is_integer⟩)
    (e_is_integer : PySem.W.codeIn K cd_is_integer "is_integer" = true)
    (k_is_integer : PySem.W.keepIn K (.ref f_is_integer) = true)
    (a_check_number : PySem.W.nsIn K mainGlobals "check_number" = some (some (.ref f_check_number)))
    (l_check_number : K.lookup f_check_number = some ⟨oc_check_number, od_check_number, .func (PySem.W.fnOf "check_number" "check_number" (defArgs s_check_number) (defBody s_check_number) (defScope s_check_number) .none kV_check_number dc_check_number pm_check_number an_check_number cd_check_number ct_check_number), sl_check_number⟩)
    (e_check_number : PySem.W.codeIn K cd_check_number "check_number" = true)
    (k_check_number : PySem.W.keepIn K (.ref f_check_number) = true)
    (a_checked_members : PySem.W.nsIn K mainGlobals "checked_members" = some (some (.ref f_checked_members)))
    (l_checked_members : K.lookup f_checked_members = some ⟨oc_checked_members, od_checked_members, .func (PySem.W.fnOf "checked_members" "checked_members" (defArgs s_checked_members) (defBody s_checked_members) (defScope s_checked_members) .none kV_checked_members dc_checked_members pm_checked_members an_checked_members cd_checked_members ct_checked_members), sl_checked_members⟩)
    (e_checked_members : PySem.W.codeIn K cd_checked_members "checked_members" = true)
    (k_checked_members : PySem.W.keepIn K (.ref f_checked_members) = true)
    (a_least_period : PySem.W.nsIn K mainGlobals "least_period" = some (some (.ref f_least_period)))
    (l_least_period : K.lookup f_least_period = some ⟨oc_least_period, od_least_period, .func (PySem.W.fnOf "least_period" "least_period" (defArgs s_least_period) (defBody s_least_period) (defScope s_least_period) .none kV_least_period dc_least_period pm_least_period an_least_period cd_least_period ct_least_period), sl_least_period⟩)
    (e_least_period : PySem.W.codeIn K cd_least_period "least_period" = true)
    (k_least_period : PySem.W.keepIn K (.ref f_least_period) = true)
    (a_reduced : PySem.W.nsIn K mainGlobals "reduced" = some (some (.ref f_reduced)))
    (l_reduced : K.lookup f_reduced = some ⟨oc_reduced, od_reduced, .func (PySem.W.fnOf "reduced" "reduced" (defArgs s_reduced) (defBody s_reduced) (defScope s_reduced) .none kV_reduced dc_reduced pm_reduced an_reduced cd_reduced ct_reduced), sl_reduced⟩)
    (e_reduced : PySem.W.codeIn K cd_reduced "reduced" = true)
    (k_reduced : PySem.W.keepIn K (.ref f_reduced) = true)
    (a_is_member : PySem.W.nsIn K mainGlobals "is_member" = some (some (.ref f_is_member)))
    (l_is_member : K.lookup f_is_member = some ⟨oc_is_member, od_is_member, .func (PySem.W.fnOf "is_member" "is_member" (defArgs s_is_member) (defBody s_is_member) (defScope s_is_member) .none kV_is_member dc_is_member pm_is_member an_is_member cd_is_member ct_is_member), sl_is_member⟩)
    (e_is_member : PySem.W.codeIn K cd_is_member "is_member" = true)
    (k_is_member : PySem.W.keepIn K (.ref f_is_member) = true)
    (a_NumberSetu_initu : PySem.W.findIn K (.ref C_NumberSet) "__init__" = some (some (.ref f_NumberSetu_initu)))
    (l_NumberSetu_initu : K.lookup f_NumberSetu_initu = some ⟨oc_NumberSetu_initu, od_NumberSetu_initu, .func (PySem.W.fnOf "__init__" "NumberSet.__init__" (defArgs s_NumberSetu_initu) (defBody s_NumberSetu_initu) (defScope s_NumberSetu_initu) .none kV_NumberSetu_initu dc_NumberSetu_initu pm_NumberSetu_initu an_NumberSetu_initu cd_NumberSetu_initu ct_NumberSetu_initu), sl_NumberSetu_initu⟩)
    (e_NumberSetu_initu : PySem.W.codeIn K cd_NumberSetu_initu "NumberSet.__init__" = true)
    (k_NumberSetu_initu : PySem.W.keepIn K (.ref f_NumberSetu_initu) = true)
    (a_NumberSetu_containsu : PySem.W.findIn K (.ref C_NumberSet) "__contains__" = some (some (.ref f_NumberSetu_containsu)))
    (l_NumberSetu_containsu : K.lookup f_NumberSetu_containsu = some ⟨oc_NumberSetu_containsu, od_NumberSetu_containsu, .func (PySem.W.fnOf "__contains__" "NumberSet.__contains__" (defArgs s_NumberSetu_containsu) (defBody s_NumberSetu_containsu) (defScope s_NumberSetu_containsu) .none kV_NumberSetu_containsu dc_NumberSetu_containsu pm_NumberSetu_containsu an_NumberSetu_containsu cd_NumberSetu_containsu ct_NumberSetu_containsu), sl_NumberSetu_containsu⟩)
    (e_NumberSetu_containsu : PySem.W.codeIn K cd_NumberSetu_containsu "NumberSet.__contains__" = true)
    (k_NumberSetu_containsu : PySem.W.keepIn K (.ref f_NumberSetu_containsu) = true)
    (a_NumberSet_least : PySem.W.findIn K (.ref C_NumberSet) "least" = some (some (.ref f_NumberSet_least)))
    (l_NumberSet_least : K.lookup f_NumberSet_least = some ⟨oc_NumberSet_least, od_NumberSet_least, .func (PySem.W.fnOf "least" "NumberSet.least" (defArgs s_NumberSet_least) (defBody s_NumberSet_least) (defScope s_NumberSet_least) .none kV_NumberSet_least dc_NumberSet_least pm_NumberSet_least an_NumberSet_least cd_NumberSet_least ct_NumberSet_least), sl_NumberSet_least⟩)
    (e_NumberSet_least : PySem.W.codeIn K cd_NumberSet_least "NumberSet.least" = true)
    (k_NumberSet_least : PySem.W.keepIn K (.ref f_NumberSet_least) = true)
    (a_NumberSet_lasting : PySem.W.findIn K (.ref C_NumberSet) "lasting" = some (some (.ref f_NumberSet_lasting)))
    (l_NumberSet_lasting : K.lookup f_NumberSet_lasting = some ⟨oc_NumberSet_lasting, od_NumberSet_lasting, .func (PySem.W.fnOf "lasting" "NumberSet.lasting" (defArgs s_NumberSet_lasting) (defBody s_NumberSet_lasting) (defScope s_NumberSet_lasting) .none kV_NumberSet_lasting dc_NumberSet_lasting pm_NumberSet_lasting an_NumberSet_lasting cd_NumberSet_lasting ct_NumberSet_lasting), sl_NumberSet_lasting⟩)
    (e_NumberSet_lasting : PySem.W.codeIn K cd_NumberSet_lasting "NumberSet.lasting" = true)
    (k_NumberSet_lasting : PySem.W.keepIn K (.ref f_NumberSet_lasting) = true)
    (a_NumberSet_gone : PySem.W.findIn K (.ref C_NumberSet) "gone" = some (some (.ref f_NumberSet_gone)))
    (l_NumberSet_gone : K.lookup f_NumberSet_gone = some ⟨oc_NumberSet_gone, od_NumberSet_gone, .func (PySem.W.fnOf "gone" "NumberSet.gone" (defArgs s_NumberSet_gone) (defBody s_NumberSet_gone) (defScope s_NumberSet_gone) .none kV_NumberSet_gone dc_NumberSet_gone pm_NumberSet_gone an_NumberSet_gone cd_NumberSet_gone ct_NumberSet_gone), sl_NumberSet_gone⟩)
    (e_NumberSet_gone : PySem.W.codeIn K cd_NumberSet_gone "NumberSet.gone" = true)
    (k_NumberSet_gone : PySem.W.keepIn K (.ref f_NumberSet_gone) = true)
    (a_NumberSet_listed : PySem.W.findIn K (.ref C_NumberSet) "listed" = some (some (.ref f_NumberSet_listed)))
    (l_NumberSet_listed : K.lookup f_NumberSet_listed = some ⟨oc_NumberSet_listed, od_NumberSet_listed, .func (PySem.W.fnOf "listed" "NumberSet.listed" (defArgs s_NumberSet_listed) (defBody s_NumberSet_listed) (defScope s_NumberSet_listed) .none kV_NumberSet_listed dc_NumberSet_listed pm_NumberSet_listed an_NumberSet_listed cd_NumberSet_listed ct_NumberSet_listed), sl_NumberSet_listed⟩)
    (e_NumberSet_listed : PySem.W.codeIn K cd_NumberSet_listed "NumberSet.listed" = true)
    (k_NumberSet_listed : PySem.W.keepIn K (.ref f_NumberSet_listed) = true)
    (a_NumberSet_counted : PySem.W.findIn K (.ref C_NumberSet) "counted" = some (some (.ref f_NumberSet_counted)))
    (l_NumberSet_counted : K.lookup f_NumberSet_counted = some ⟨oc_NumberSet_counted, od_NumberSet_counted, .func (PySem.W.fnOf "counted" "NumberSet.counted" (defArgs s_NumberSet_counted) (defBody s_NumberSet_counted) (defScope s_NumberSet_counted) .none kV_NumberSet_counted dc_NumberSet_counted pm_NumberSet_counted an_NumberSet_counted cd_NumberSet_counted ct_NumberSet_counted), sl_NumberSet_counted⟩)
    (e_NumberSet_counted : PySem.W.codeIn K cd_NumberSet_counted "NumberSet.counted" = true)
    (k_NumberSet_counted : PySem.W.keepIn K (.ref f_NumberSet_counted) = true)
    (a_form_of : PySem.W.nsIn K mainGlobals "form_of" = some (some (.ref f_form_of)))
    (l_form_of : K.lookup f_form_of = some ⟨oc_form_of, od_form_of, .func (PySem.W.fnOf "form_of" "form_of" (defArgs s_form_of) (defBody s_form_of) (defScope s_form_of) .none kV_form_of dc_form_of pm_form_of an_form_of cd_form_of ct_form_of), sl_form_of⟩)
    (e_form_of : PySem.W.codeIn K cd_form_of "form_of" = true)
    (k_form_of : PySem.W.keepIn K (.ref f_form_of) = true)
    (a__law_inside : PySem.W.nsIn K mainGlobals "_law_inside" = some (some (.ref f__law_inside)))
    (l__law_inside : K.lookup f__law_inside = some ⟨oc__law_inside, od__law_inside, .func (PySem.W.fnOf "_law_inside" "_law_inside" (defArgs s__law_inside) (defBody s__law_inside) (defScope s__law_inside) .none kV__law_inside dc__law_inside pm__law_inside an__law_inside cd__law_inside ct__law_inside), sl__law_inside⟩)
    (e__law_inside : PySem.W.codeIn K cd__law_inside "_law_inside" = true)
    (k__law_inside : PySem.W.keepIn K (.ref f__law_inside) = true)
    (a__law_below : PySem.W.nsIn K mainGlobals "_law_below" = some (some (.ref f__law_below)))
    (l__law_below : K.lookup f__law_below = some ⟨oc__law_below, od__law_below, .func (PySem.W.fnOf "_law_below" "_law_below" (defArgs s__law_below) (defBody s__law_below) (defScope s__law_below) .none kV__law_below dc__law_below pm__law_below an__law_below cd__law_below ct__law_below), sl__law_below⟩)
    (e__law_below : PySem.W.codeIn K cd__law_below "_law_below" = true)
    (k__law_below : PySem.W.keepIn K (.ref f__law_below) = true)
    (a__law_refusals : PySem.W.nsIn K mainGlobals "_law_refusals" = some (some (.ref f__law_refusals)))
    (l__law_refusals : K.lookup f__law_refusals = some ⟨oc__law_refusals, od__law_refusals, .func (PySem.W.fnOf "_law_refusals" "_law_refusals" (defArgs s__law_refusals) (defBody s__law_refusals) (defScope s__law_refusals) .none kV__law_refusals dc__law_refusals pm__law_refusals an__law_refusals cd__law_refusals ct__law_refusals), sl__law_refusals⟩)
    (e__law_refusals : PySem.W.codeIn K cd__law_refusals "_law_refusals" = true)
    (k__law_refusals : PySem.W.keepIn K (.ref f__law_refusals) = true)
    (a__law_once : PySem.W.nsIn K mainGlobals "_law_once" = some (some (.ref f__law_once)))
    (l__law_once : K.lookup f__law_once = some ⟨oc__law_once, od__law_once, .func (PySem.W.fnOf "_law_once" "_law_once" (defArgs s__law_once) (defBody s__law_once) (defScope s__law_once) .none kV__law_once dc__law_once pm__law_once an__law_once cd__law_once ct__law_once), sl__law_once⟩)
    (e__law_once : PySem.W.codeIn K cd__law_once "_law_once" = true)
    (k__law_once : PySem.W.keepIn K (.ref f__law_once) = true)
    (g_NumberSet : PySem.W.nsIn K mainGlobals "NumberSet" = some (some (.ref C_NumberSet)))
    (pg_NumberSet : PySem.W.plainGet K C_NumberSet Str.empty = true)
    (hd_NumberSet : PySem.W.hasDictIn K C_NumberSet = true)
    (po_NumberSet : PySem.W.plainOver K C_NumberSet = true)
    (sa_NumberSet : PySem.W.findIn K (.ref C_NumberSet) "__setattr__" = some (some (.builtin "object.__setattr__")))
    (mk_NumberSet : PySem.W.makesIn K C_NumberSet = true)
    (if_NumberSet : PySem.W.isFn K (.ref f_NumberSetu_initu) = true)
    (kc_NumberSet : PySem.W.keepIn K (.ref C_NumberSet) = true)
    (x_NumberSet_since : PySem.W.findIn K (.ref C_NumberSet) "since" = some none)
    (x_NumberSet_period : PySem.W.findIn K (.ref C_NumberSet) "period" = some none)
    (x_NumberSet_firsts : PySem.W.findIn K (.ref C_NumberSet) "firsts" = some none)
    (x_NumberSet_later : PySem.W.findIn K (.ref C_NumberSet) "later" = some none)
    (ps_NumberSetu_containsu : PySem.W.isFn K (.ref f_NumberSetu_containsu) = true)
    (ps_NumberSet_counted : PySem.W.isFn K (.ref f_NumberSet_counted) = true)
    (ps_NumberSet_gone : PySem.W.isFn K (.ref f_NumberSet_gone) = true)
    (ps_NumberSet_lasting : PySem.W.isFn K (.ref f_NumberSet_lasting) = true)
    (ps_NumberSet_least : PySem.W.isFn K (.ref f_NumberSet_least) = true)
    (ps_NumberSet_listed : PySem.W.isFn K (.ref f_NumberSet_listed) = true)
    (g_BadNumber : PySem.W.nsIn K mainGlobals "BadNumber" = some (some (.ref C_BadNumber)))
    (g_BadMembers : PySem.W.nsIn K mainGlobals "BadMembers" = some (some (.ref C_BadMembers)))
    (g_WrongThing : PySem.W.nsIn K mainGlobals "WrongThing" = some (some (.ref C_WrongThing)))
    (g_WrongItem : PySem.W.nsIn K mainGlobals "WrongItem" = some (some (.ref C_WrongItem)))
    (oc_BadNumber : K.lookup C_BadNumber = some (excClassObj xnm_BadNumber xq_BadNumber C_BadNumber xN_BadNumber xbs_BadNumber xbm_BadNumber true xsn_BadNumber xsub_BadNumber xab_BadNumber xcol_BadNumber xdd_BadNumber xk0_BadNumber xk1_BadNumber xk2_BadNumber xk3_BadNumber xk5_BadNumber "ValueError.__new__"))
    (ov_BadNumber : PySem.HandSPX.refsVE xbm_BadNumber = true)
    (os_BadNumber : PySem.W.findIn K (.ref C_BadNumber) "__setattr__" = some (some (.builtin "object.__setattr__")))
    (ob_BadNumber : PySem.W.subIn K (.ref C_BadNumber) (.type "BaseException") = some true)
    (oy_BadNumber : PySem.W.typeIn K (.ref C_BadNumber) = some (.type "type"))
    (ok_BadNumber : PySem.W.keepIn K (.ref C_BadNumber) = true)
    (xg1_BadNumber : PySem.W.findIn K (.ref C_BadNumber) "__getattribute__" = some (some (.builtin "BaseException.__getattribute__")))
    (xg2_BadNumber : PySem.W.findIn K (.ref C_BadNumber) "__getattr__" = some none)
    (xg4_BadNumber : PySem.W.hasDictIn K C_BadNumber = true)
    (xn_BadNumber_thing : PySem.W.findIn K (.ref C_BadNumber) "thing" = some none)
    (oi_BadNumber : PySem.W.findIn K (.ref C_BadNumber) "__init__" = some (some (.ref f_WrongThingu_initu)))
    (sx1_BadNumber : PySem.W.mroIn K C_BadNumber (.ref C_WrongThing) = some true)
    (sx2_BadNumber : PySem.W.ks_superIn K C_BadNumber C_WrongThing "__init__" = some (some (.builtin "ValueError.__init__")))
    (sx3_BadNumber : PySem.W.subIn K (.ref C_BadNumber) (.type "ValueError") = some true)
    (xm_BadNumber_BadNumber : PySem.W.exmOne K (.ref C_BadNumber) (.ref C_BadNumber) = some true)
    (xm_BadNumber_BadMembers : PySem.W.exmOne K (.ref C_BadNumber) (.ref C_BadMembers) = some false)
    (oc_BadMembers : K.lookup C_BadMembers = some (excClassObj xnm_BadMembers xq_BadMembers C_BadMembers xN_BadMembers xbs_BadMembers xbm_BadMembers true xsn_BadMembers xsub_BadMembers xab_BadMembers xcol_BadMembers xdd_BadMembers xk0_BadMembers xk1_BadMembers xk2_BadMembers xk3_BadMembers xk5_BadMembers "ValueError.__new__"))
    (ov_BadMembers : PySem.HandSPX.refsVE xbm_BadMembers = true)
    (os_BadMembers : PySem.W.findIn K (.ref C_BadMembers) "__setattr__" = some (some (.builtin "object.__setattr__")))
    (ob_BadMembers : PySem.W.subIn K (.ref C_BadMembers) (.type "BaseException") = some true)
    (oy_BadMembers : PySem.W.typeIn K (.ref C_BadMembers) = some (.type "type"))
    (ok_BadMembers : PySem.W.keepIn K (.ref C_BadMembers) = true)
    (xg1_BadMembers : PySem.W.findIn K (.ref C_BadMembers) "__getattribute__" = some (some (.builtin "BaseException.__getattribute__")))
    (xg2_BadMembers : PySem.W.findIn K (.ref C_BadMembers) "__getattr__" = some none)
    (xg4_BadMembers : PySem.W.hasDictIn K C_BadMembers = true)
    (xn_BadMembers_place : PySem.W.findIn K (.ref C_BadMembers) "place" = some none)
    (oi_BadMembers : PySem.W.findIn K (.ref C_BadMembers) "__init__" = some (some (.ref f_WrongItemu_initu)))
    (sx1_BadMembers : PySem.W.mroIn K C_BadMembers (.ref C_WrongItem) = some true)
    (sx2_BadMembers : PySem.W.ks_superIn K C_BadMembers C_WrongItem "__init__" = some (some (.builtin "ValueError.__init__")))
    (sx3_BadMembers : PySem.W.subIn K (.ref C_BadMembers) (.type "ValueError") = some true)
    (xm_BadMembers_BadNumber : PySem.W.exmOne K (.ref C_BadMembers) (.ref C_BadNumber) = some false)
    (xm_BadMembers_BadMembers : PySem.W.exmOne K (.ref C_BadMembers) (.ref C_BadMembers) = some true)
    (l_WrongThingu_initu : K.lookup f_WrongThingu_initu = some ⟨oc_WrongThingu_initu, od_WrongThingu_initu, .func (PySem.W.fnX "__init__" "WrongThing.__init__" (defArgs s_WrongThingu_initu) (defBody s_WrongThingu_initu) (defScope s_WrongThingu_initu) [("__class__", cc_WrongThingu_initu)] .none kV_WrongThingu_initu dc_WrongThingu_initu pm_WrongThingu_initu an_WrongThingu_initu (.ref cda_WrongThingu_initu) ct_WrongThingu_initu), sl_WrongThingu_initu⟩)
    (e_WrongThingu_initu : PySem.W.codeIn K (.ref cda_WrongThingu_initu) "WrongThing.__init__" = true)
    (ot_WrongThingu_initu : PySem.W.typeIn K (.ref f_WrongThingu_initu) = some (.type "function"))
    (u1_WrongThingu_initu : K.lookup cda_WrongThingu_initu = some ⟨ucl_WrongThingu_initu, udd_WrongThingu_initu, .fields uvs_WrongThingu_initu, ucs_WrongThingu_initu⟩)
    (u2_WrongThingu_initu : uvs_WrongThingu_initu[2]? = some (.str ufl_WrongThingu_initu utf_WrongThingu_initu))
    (u3_WrongThingu_initu : ((P.main.file : Str) == ufl_WrongThingu_initu) = true)
    (u4 : (P.main.scope.names.lookup ("super" : Str)).isSome = false)
    (u5_WrongThingu_initu : K.lookup cc_WrongThingu_initu = some ⟨vcl_WrongThingu_initu, vcd_WrongThingu_initu, .cell (some (.ref C_WrongThing)), vcs_WrongThingu_initu⟩)
    (u6_WrongThingu_initu : K.lookup C_WrongThing = some ⟨wcl_WrongThingu_initu, wcd_WrongThingu_initu, .cls wdt_WrongThingu_initu, wsl_WrongThingu_initu⟩)
    (u7 : PySem.W.nsIn K mainGlobals "super" = some none)
    (u8 : PySem.W.nsIn K PySem.cStatics "thirdparty.any" = some none)
    (l_WrongItemu_initu : K.lookup f_WrongItemu_initu = some ⟨oc_WrongItemu_initu, od_WrongItemu_initu, .func (PySem.W.fnX "__init__" "WrongItem.__init__" (defArgs s_WrongItemu_initu) (defBody s_WrongItemu_initu) (defScope s_WrongItemu_initu) [("__class__", cc_WrongItemu_initu)] .none kV_WrongItemu_initu dc_WrongItemu_initu pm_WrongItemu_initu an_WrongItemu_initu (.ref cda_WrongItemu_initu) ct_WrongItemu_initu), sl_WrongItemu_initu⟩)
    (e_WrongItemu_initu : PySem.W.codeIn K (.ref cda_WrongItemu_initu) "WrongItem.__init__" = true)
    (ot_WrongItemu_initu : PySem.W.typeIn K (.ref f_WrongItemu_initu) = some (.type "function"))
    (u1_WrongItemu_initu : K.lookup cda_WrongItemu_initu = some ⟨ucl_WrongItemu_initu, udd_WrongItemu_initu, .fields uvs_WrongItemu_initu, ucs_WrongItemu_initu⟩)
    (u2_WrongItemu_initu : uvs_WrongItemu_initu[2]? = some (.str ufl_WrongItemu_initu utf_WrongItemu_initu))
    (u3_WrongItemu_initu : ((P.main.file : Str) == ufl_WrongItemu_initu) = true)
    (u5_WrongItemu_initu : K.lookup cc_WrongItemu_initu = some ⟨vcl_WrongItemu_initu, vcd_WrongItemu_initu, .cell (some (.ref C_WrongItem)), vcs_WrongItemu_initu⟩)
    (u6_WrongItemu_initu : K.lookup C_WrongItem = some ⟨wcl_WrongItemu_initu, wcd_WrongItemu_initu, .cls wdt_WrongItemu_initu, wsl_WrongItemu_initu⟩)
    : ∃ a : Ad, Tx P K mg a ∧ a.f_law = f_law ∧ ∀ (s : Shared) (u : Value), BindsTo s a.d_law ⟨[u], []⟩ [("script", u)] := by
  refine ⟨⟨C_NumberSet, f_is_listed, (PySem.W.fnOf "is_listed" "is_listed" (defArgs s_is_listed) (defBody s_is_listed) (defScope s_is_listed) .none kV_is_listed dc_is_listed pm_is_listed an_is_listed cd_is_listed ct_is_listed), f__law_source, (PySem.W.fnOf "_law_source" "_law_source" (defArgs s__law_source) (defBody s__law_source) (defScope s__law_source) .none kV__law_source dc__law_source pm__law_source an__law_source cd__law_source ct__law_source), f__law_pick, (PySem.W.fnOf "_law_pick" "_law_pick" (defArgs s__law_pick) (defBody s__law_pick) (defScope s__law_pick) .none kV__law_pick dc__law_pick pm__law_pick an__law_pick cd__law_pick ct__law_pick), f_law, (PySem.W.fnOf "law" "law" (defArgs s_law) (defBody s_law) (defScope s_law) .none kV_law dc_law pm_law an_law cd_law ct_law), f_is_integer, (PySem.W.fnOf "is_integer" "is_integer" (defArgs s_is_integer) (defBody s_is_integer) (defScope s_is_integer) .none kV_is_integer dc_is_integer pm_is_integer an_is_integer cd_is_integer ct_is_integer), f_check_number, (PySem.W.fnOf "check_number" "check_number" (defArgs s_check_number) (defBody s_check_number) (defScope s_check_number) .none kV_check_number dc_check_number pm_check_number an_check_number cd_check_number ct_check_number), f_checked_members, (PySem.W.fnOf "checked_members" "checked_members" (defArgs s_checked_members) (defBody s_checked_members) (defScope s_checked_members) .none kV_checked_members dc_checked_members pm_checked_members an_checked_members cd_checked_members ct_checked_members), f_least_period, (PySem.W.fnOf "least_period" "least_period" (defArgs s_least_period) (defBody s_least_period) (defScope s_least_period) .none kV_least_period dc_least_period pm_least_period an_least_period cd_least_period ct_least_period), f_reduced, (PySem.W.fnOf "reduced" "reduced" (defArgs s_reduced) (defBody s_reduced) (defScope s_reduced) .none kV_reduced dc_reduced pm_reduced an_reduced cd_reduced ct_reduced), f_is_member, (PySem.W.fnOf "is_member" "is_member" (defArgs s_is_member) (defBody s_is_member) (defScope s_is_member) .none kV_is_member dc_is_member pm_is_member an_is_member cd_is_member ct_is_member), f_NumberSetu_initu, (PySem.W.fnOf "__init__" "NumberSet.__init__" (defArgs s_NumberSetu_initu) (defBody s_NumberSetu_initu) (defScope s_NumberSetu_initu) .none kV_NumberSetu_initu dc_NumberSetu_initu pm_NumberSetu_initu an_NumberSetu_initu cd_NumberSetu_initu ct_NumberSetu_initu), f_NumberSetu_containsu, (PySem.W.fnOf "__contains__" "NumberSet.__contains__" (defArgs s_NumberSetu_containsu) (defBody s_NumberSetu_containsu) (defScope s_NumberSetu_containsu) .none kV_NumberSetu_containsu dc_NumberSetu_containsu pm_NumberSetu_containsu an_NumberSetu_containsu cd_NumberSetu_containsu ct_NumberSetu_containsu), f_NumberSet_least, (PySem.W.fnOf "least" "NumberSet.least" (defArgs s_NumberSet_least) (defBody s_NumberSet_least) (defScope s_NumberSet_least) .none kV_NumberSet_least dc_NumberSet_least pm_NumberSet_least an_NumberSet_least cd_NumberSet_least ct_NumberSet_least), f_NumberSet_lasting, (PySem.W.fnOf "lasting" "NumberSet.lasting" (defArgs s_NumberSet_lasting) (defBody s_NumberSet_lasting) (defScope s_NumberSet_lasting) .none kV_NumberSet_lasting dc_NumberSet_lasting pm_NumberSet_lasting an_NumberSet_lasting cd_NumberSet_lasting ct_NumberSet_lasting), f_NumberSet_gone, (PySem.W.fnOf "gone" "NumberSet.gone" (defArgs s_NumberSet_gone) (defBody s_NumberSet_gone) (defScope s_NumberSet_gone) .none kV_NumberSet_gone dc_NumberSet_gone pm_NumberSet_gone an_NumberSet_gone cd_NumberSet_gone ct_NumberSet_gone), f_NumberSet_listed, (PySem.W.fnOf "listed" "NumberSet.listed" (defArgs s_NumberSet_listed) (defBody s_NumberSet_listed) (defScope s_NumberSet_listed) .none kV_NumberSet_listed dc_NumberSet_listed pm_NumberSet_listed an_NumberSet_listed cd_NumberSet_listed ct_NumberSet_listed), f_NumberSet_counted, (PySem.W.fnOf "counted" "NumberSet.counted" (defArgs s_NumberSet_counted) (defBody s_NumberSet_counted) (defScope s_NumberSet_counted) .none kV_NumberSet_counted dc_NumberSet_counted pm_NumberSet_counted an_NumberSet_counted cd_NumberSet_counted ct_NumberSet_counted), f_form_of, (PySem.W.fnOf "form_of" "form_of" (defArgs s_form_of) (defBody s_form_of) (defScope s_form_of) .none kV_form_of dc_form_of pm_form_of an_form_of cd_form_of ct_form_of), f__law_inside, (PySem.W.fnOf "_law_inside" "_law_inside" (defArgs s__law_inside) (defBody s__law_inside) (defScope s__law_inside) .none kV__law_inside dc__law_inside pm__law_inside an__law_inside cd__law_inside ct__law_inside), f__law_below, (PySem.W.fnOf "_law_below" "_law_below" (defArgs s__law_below) (defBody s__law_below) (defScope s__law_below) .none kV__law_below dc__law_below pm__law_below an__law_below cd__law_below ct__law_below), f__law_refusals, (PySem.W.fnOf "_law_refusals" "_law_refusals" (defArgs s__law_refusals) (defBody s__law_refusals) (defScope s__law_refusals) .none kV__law_refusals dc__law_refusals pm__law_refusals an__law_refusals cd__law_refusals ct__law_refusals), f__law_once, (PySem.W.fnOf "_law_once" "_law_once" (defArgs s__law_once) (defBody s__law_once) (defScope s__law_once) .none kV__law_once dc__law_once pm__law_once an__law_once cd__law_once ct__law_once), t_MOST_INDEX, t_MOST_MEMBER, t_MOST_LISTED, C_BadNumber, C_BadMembers, C_WrongThing, C_WrongItem, f_WrongThingu_initu, (PySem.W.fnX "__init__" "WrongThing.__init__" (defArgs s_WrongThingu_initu) (defBody s_WrongThingu_initu) (defScope s_WrongThingu_initu) [("__class__", cc_WrongThingu_initu)] .none kV_WrongThingu_initu dc_WrongThingu_initu pm_WrongThingu_initu an_WrongThingu_initu (.ref cda_WrongThingu_initu) ct_WrongThingu_initu), cc_WrongThingu_initu, cda_WrongThingu_initu, f_WrongItemu_initu, (PySem.W.fnX "__init__" "WrongItem.__init__" (defArgs s_WrongItemu_initu) (defBody s_WrongItemu_initu) (defScope s_WrongItemu_initu) [("__class__", cc_WrongItemu_initu)] .none kV_WrongItemu_initu dc_WrongItemu_initu pm_WrongItemu_initu an_WrongItemu_initu (.ref cda_WrongItemu_initu) ct_WrongItemu_initu), cc_WrongItemu_initu, cda_WrongItemu_initu⟩, ?_, rfl, fun s v => .of_eq rfl⟩
  exact ⟨PySem.W.mg_none_of X G n_abs,
    PySem.W.mg_none_of X G n_bool,
    PySem.W.mg_none_of X G n_divmod,
    PySem.W.mg_none_of X G n_int,
    PySem.W.mg_none_of X G n_isinstance,
    PySem.W.mg_none_of X G n_len,
    PySem.W.mg_none_of X G n_list,
    PySem.W.mg_none_of X G n_max,
    PySem.W.mg_none_of X G n_range,
    PySem.W.mg_none_of X G n_repr,
    PySem.W.mg_none_of X G n_str,
    PySem.W.mg_none_of X G n_tuple,
    PySem.W.mg_of X G c_MOST_INDEX,
    PySem.W.mg_of X G c_MOST_MEMBER,
    PySem.W.mg_of X G c_MOST_LISTED,
    PySem.W.mg_of X G a_is_listed,
    k_is_listed,
    fun_mk (st := s_is_listed) l_is_listed e_is_listed k_is_listed,
    (fun_mk (st := s_is_listed) l_is_listed e_is_listed k_is_listed).binds (ps := ["thing"]) fun _ _ _ _ _ _ us hl => match us, hl with | [_], _ => rfl,
    PySem.W.mg_of X G a__law_source,
    k__law_source,
    fun_mk (st := s__law_source) l__law_source e__law_source k__law_source,
    (fun_mk (st := s__law_source) l__law_source e__law_source k__law_source).binds (ps := ["script", "place"]) fun _ _ _ _ _ _ us hl => match us, hl with | [_, _], _ => rfl,
    PySem.W.mg_of X G a__law_pick,
    k__law_pick,
    fun_mk (st := s__law_pick) l__law_pick e__law_pick k__law_pick,
    (fun_mk (st := s__law_pick) l__law_pick e__law_pick k__law_pick).binds (ps := ["source", "many"]) fun _ _ _ _ _ _ us hl => match us, hl with | [_, _], _ => rfl,
    PySem.W.mg_of X G a_law,
    k_law,
    fun_mk (st := s_law) l_law e_law k_law,
    (fun_mk (st := s_law) l_law e_law k_law).binds (ps := ["script"]) fun _ _ _ _ _ _ us hl => match us, hl with | [_], _ => rfl,
    PySem.W.mg_of X G a_is_integer,
    k_is_integer,
    fun_mk (st := s_is_integer) l_is_integer e_is_integer k_is_integer,
    (fun_mk (st := s_is_integer) l_is_integer e_is_integer k_is_integer).binds (ps := ["thing", "low", "high"]) fun _ _ _ _ _ _ us hl => match us, hl with | [_, _, _], _ => rfl,
    PySem.W.mg_of X G a_check_number,
    k_check_number,
    fun_mk (st := s_check_number) l_check_number e_check_number k_check_number,
    (fun_mk (st := s_check_number) l_check_number e_check_number k_check_number).binds (ps := ["thing", "low", "high"]) fun _ _ _ _ _ _ us hl => match us, hl with | [_, _, _], _ => rfl,
    PySem.W.mg_of X G a_checked_members,
    k_checked_members,
    fun_mk (st := s_checked_members) l_checked_members e_checked_members k_checked_members,
    (fun_mk (st := s_checked_members) l_checked_members e_checked_members k_checked_members).binds (ps := ["thing", "below", "shift"]) fun _ _ _ _ _ _ us hl => match us, hl with | [_, _, _], _ => rfl,
    PySem.W.mg_of X G a_least_period,
    k_least_period,
    fun_mk (st := s_least_period) l_least_period e_least_period k_least_period,
    (fun_mk (st := s_least_period) l_least_period e_least_period k_least_period).binds (ps := ["row"]) fun _ _ _ _ _ _ us hl => match us, hl with | [_], _ => rfl,
    PySem.W.mg_of X G a_reduced,
    k_reduced,
    fun_mk (st := s_reduced) l_reduced e_reduced k_reduced,
    (fun_mk (st := s_reduced) l_reduced e_reduced k_reduced).binds (ps := ["told", "index"]) fun _ _ _ _ _ _ us hl => match us, hl with | [_, _], _ => rfl,
    PySem.W.mg_of X G a_is_member,
    k_is_member,
    fun_mk (st := s_is_member) l_is_member e_is_member k_is_member,
    (fun_mk (st := s_is_member) l_is_member e_is_member k_is_member).binds (ps := ["form", "number"]) fun _ _ _ _ _ _ us hl => match us, hl with | [_, _], _ => rfl,
    k_NumberSetu_initu,
    fun_mk (st := s_NumberSetu_initu) l_NumberSetu_initu e_NumberSetu_initu k_NumberSetu_initu,
    (fun_mk (st := s_NumberSetu_initu) l_NumberSetu_initu e_NumberSetu_initu k_NumberSetu_initu).binds (ps := ["self", "since", "period", "firsts", "later"]) fun _ _ _ _ _ _ us hl => match us, hl with | [_, _, _, _, _], _ => rfl,
    k_NumberSetu_containsu,
    fun_mk (st := s_NumberSetu_containsu) l_NumberSetu_containsu e_NumberSetu_containsu k_NumberSetu_containsu,
    (fun_mk (st := s_NumberSetu_containsu) l_NumberSetu_containsu e_NumberSetu_containsu k_NumberSetu_containsu).binds (ps := ["self", "number"]) fun _ _ _ _ _ _ us hl => match us, hl with | [_, _], _ => rfl,
    k_NumberSet_least,
    fun_mk (st := s_NumberSet_least) l_NumberSet_least e_NumberSet_least k_NumberSet_least,
    (fun_mk (st := s_NumberSet_least) l_NumberSet_least e_NumberSet_least k_NumberSet_least).binds (ps := ["self"]) fun _ _ _ _ _ _ us hl => match us, hl with | [_], _ => rfl,
    k_NumberSet_lasting,
    fun_mk (st := s_NumberSet_lasting) l_NumberSet_lasting e_NumberSet_lasting k_NumberSet_lasting,
    (fun_mk (st := s_NumberSet_lasting) l_NumberSet_lasting e_NumberSet_lasting k_NumberSet_lasting).binds (ps := ["self"]) fun _ _ _ _ _ _ us hl => match us, hl with | [_], _ => rfl,
    k_NumberSet_gone,
    fun_mk (st := s_NumberSet_gone) l_NumberSet_gone e_NumberSet_gone k_NumberSet_gone,
    (fun_mk (st := s_NumberSet_gone) l_NumberSet_gone e_NumberSet_gone k_NumberSet_gone).binds (ps := ["self"]) fun _ _ _ _ _ _ us hl => match us, hl with | [_], _ => rfl,
    k_NumberSet_listed,
    fun_mk (st := s_NumberSet_listed) l_NumberSet_listed e_NumberSet_listed k_NumberSet_listed,
    (fun_mk (st := s_NumberSet_listed) l_NumberSet_listed e_NumberSet_listed k_NumberSet_listed).binds (ps := ["self", "many"]) fun _ _ _ _ _ _ us hl => match us, hl with | [_, _], _ => rfl,
    k_NumberSet_counted,
    fun_mk (st := s_NumberSet_counted) l_NumberSet_counted e_NumberSet_counted k_NumberSet_counted,
    (fun_mk (st := s_NumberSet_counted) l_NumberSet_counted e_NumberSet_counted k_NumberSet_counted).binds (ps := ["self", "number"]) fun _ _ _ _ _ _ us hl => match us, hl with | [_, _], _ => rfl,
    PySem.W.mg_of X G a_form_of,
    k_form_of,
    fun_mk (st := s_form_of) l_form_of e_form_of k_form_of,
    (fun_mk (st := s_form_of) l_form_of e_form_of k_form_of).binds (ps := ["numbers"]) fun _ _ _ _ _ _ us hl => match us, hl with | [_], _ => rfl,
    PySem.W.mg_of X G a__law_inside,
    k__law_inside,
    fun_mk (st := s__law_inside) l__law_inside e__law_inside k__law_inside,
    (fun_mk (st := s__law_inside) l__law_inside e__law_inside k__law_inside).binds (ps := ["form", "number"]) fun _ _ _ _ _ _ us hl => match us, hl with | [_, _], _ => rfl,
    PySem.W.mg_of X G a__law_below,
    k__law_below,
    fun_mk (st := s__law_below) l__law_below e__law_below k__law_below,
    (fun_mk (st := s__law_below) l__law_below e__law_below k__law_below).binds (ps := ["form", "number"]) fun _ _ _ _ _ _ us hl => match us, hl with | [_, _], _ => rfl,
    PySem.W.mg_of X G a__law_refusals,
    k__law_refusals,
    fun_mk (st := s__law_refusals) l__law_refusals e__law_refusals k__law_refusals,
    (fun_mk (st := s__law_refusals) l__law_refusals e__law_refusals k__law_refusals).binds (ps := ["made"]) fun _ _ _ _ _ _ us hl => match us, hl with | [_], _ => rfl,
    PySem.W.mg_of X G a__law_once,
    k__law_once,
    fun_mk (st := s__law_once) l__law_once e__law_once k__law_once,
    (fun_mk (st := s__law_once) l__law_once e__law_once k__law_once).binds (ps := ["script", "lap"]) fun _ _ _ _ _ _ us hl => match us, hl with | [_, _], _ => rfl,
    PySem.W.mg_of X G g_NumberSet,
    ⟨pg_NumberSet, hd_NumberSet, po_NumberSet, sa_NumberSet⟩,
    ⟨mk_NumberSet, a_NumberSetu_initu, if_NumberSet, kc_NumberSet⟩,
    x_NumberSet_since,
    x_NumberSet_period,
    x_NumberSet_firsts,
    x_NumberSet_later,
    ⟨a_NumberSetu_containsu, ps_NumberSetu_containsu⟩,
    ⟨a_NumberSet_counted, ps_NumberSet_counted, k_NumberSet_counted⟩,
    ⟨a_NumberSet_gone, ps_NumberSet_gone, k_NumberSet_gone⟩,
    ⟨a_NumberSet_lasting, ps_NumberSet_lasting, k_NumberSet_lasting⟩,
    ⟨a_NumberSet_least, ps_NumberSet_least, k_NumberSet_least⟩,
    ⟨a_NumberSet_listed, ps_NumberSet_listed, k_NumberSet_listed⟩,
    PySem.W.mg_of X G g_BadNumber,
    PySem.W.mg_of X G g_BadMembers,
    PySem.W.mg_of X G g_WrongThing,
    PySem.W.mg_of X G g_WrongItem,
    ⟨⟨_, _, _, _, _, _, _, _, _, _, _, _, _, _, _, oc_BadNumber, ov_BadNumber⟩, os_BadNumber, ob_BadNumber, oy_BadNumber, ok_BadNumber⟩,
    ⟨xg1_BadNumber, xg2_BadNumber, ob_BadNumber, xg4_BadNumber⟩,
    xn_BadNumber_thing,
    oi_BadNumber,
    ⟨sx1_BadNumber, sx2_BadNumber, sx3_BadNumber⟩,
    xm_BadNumber_BadNumber,
    xm_BadNumber_BadMembers,
    ⟨⟨_, _, _, _, _, _, _, _, _, _, _, _, _, _, _, oc_BadMembers, ov_BadMembers⟩, os_BadMembers, ob_BadMembers, oy_BadMembers, ok_BadMembers⟩,
    ⟨xg1_BadMembers, xg2_BadMembers, ob_BadMembers, xg4_BadMembers⟩,
    xn_BadMembers_place,
    oi_BadMembers,
    ⟨sx1_BadMembers, sx2_BadMembers, sx3_BadMembers⟩,
    xm_BadMembers_BadNumber,
    xm_BadMembers_BadMembers,
    funS_mk (st := s_WrongThingu_initu) l_WrongThingu_initu e_WrongThingu_initu,
    (funS_mk (st := s_WrongThingu_initu) l_WrongThingu_initu e_WrongThingu_initu).binds (ps := ["self", "thing"]) fun _ _ _ _ _ us hl => match us, hl with | [_, _], _ => rfl,
    ot_WrongThingu_initu,
    ⟨⟨_, _, _, _, _, _, u1_WrongThingu_initu, u2_WrongThingu_initu, u3_WrongThingu_initu⟩, u4, ⟨_, _, _, u5_WrongThingu_initu⟩, ⟨_, _, _, _, u6_WrongThingu_initu⟩, PySem.W.mg_none_of X G u7, u8⟩,
    funS_mk (st := s_WrongItemu_initu) l_WrongItemu_initu e_WrongItemu_initu,
    (funS_mk (st := s_WrongItemu_initu) l_WrongItemu_initu e_WrongItemu_initu).binds (ps := ["self", "place"]) fun _ _ _ _ _ us hl => match us, hl with | [_, _], _ => rfl,
    ot_WrongItemu_initu,
    ⟨⟨_, _, _, _, _, _, u1_WrongItemu_initu, u2_WrongItemu_initu, u3_WrongItemu_initu⟩, u4, ⟨_, _, _, u5_WrongItemu_initu⟩, ⟨_, _, _, _, u6_WrongItemu_initu⟩, PySem.W.mg_none_of X G u7, u8⟩⟩
end K65

end

set_option maxHeartbeats 4000000
namespace K65
section
open PySem L2 BV WM
local macro_rules | `(tactic| walk_at "v") => `(tactic| first
  | ((with_reducible refine' BV.g_var ?hh ?_); (case hh => rfl))
  | ((with_reducible refine' BV.g_own ?hh ?_); (case hh => rfl))
  | ((with_reducible refine' BV.g_ownD ?hh ?_); (case hh => rfl))
  | with_reducible refine BV.g_int ?_
  | with_reducible refine BV.g_str ?_
  | with_reducible refine BV.g_bl ?_
  | with_reducible refine BV.g_non ?_
  | (with_reducible refine BV.g_oth ?_))
local macro_rules | `(tactic| walk_at "o") => `(tactic| first
  | with_reducible refine BV.o2_I0 ?_
  | with_reducible refine BV.o2_I0b ?_
  | ((with_reducible refine BV.o2_I ?hc ?_); (case hc => first | decide | omega | exact Or.inl ⟨by omega, by omega⟩ | exact Or.inr ⟨by omega, by omega⟩ | exact Or.inl (BV.fm64 (by decide) (by decide)) | (show (_ : Int) ≠ (0 : Int); omega) | (show (0 : Int) ≤ _; omega) | (constructor <;> first | decide | omega)))
  | with_reducible refine BV.o2_I ?_ ?_
  | with_reducible refine BV.o1_U ?_
  | ((with_reducible refine BV.o2_addS ?hc ?_); (case hc => first | omega | (simp only [List.length_append, List.length_cons, List.length_nil]; omega) | (refine Nat.le_trans (Nat.add_le_add (BV.cut_le _ _ _) (Nat.le_refl _)) ?_; (try simp only [List.length_append, List.length_cons, List.length_nil]); omega) | (refine Nat.le_trans (Nat.add_le_add (Nat.le_refl _) (BV.cut_le _ _ _)) ?_; (try simp only [List.length_append, List.length_cons, List.length_nil]); omega) | (refine Nat.le_trans (Nat.add_le_add (BV.cut_le _ _ _) (BV.cut_le _ _ _)) ?_; omega)))
  | with_reducible refine BV.o2_addS ?_ ?_
  | with_reducible refine BV.o2_ltS ?_
  | with_reducible refine BV.o2_geS ?_
  | with_reducible refine BV.o2_inS ?_
  | with_reducible refine BV.o2_sub ?_
  | with_reducible refine BV.o2_eqI ?_
  | with_reducible refine BV.o2_neI ?_
  | with_reducible refine BV.o2_eqS ?_
  | with_reducible refine BV.o2_neS ?_
  | with_reducible refine BV.o2_eqB ?_
  | with_reducible refine BV.o2_neB ?_
  | with_reducible refine BV.o2_ltKey ?_
  | ((with_reducible refine BV.o2_isN ?hc ?_); (case hc => (intro _ hh; cases hh; done)))
  | ((with_reducible refine' BV.o2_ixL ?hc ?_); (case hc => first | rfl | assumption | exact BV.at_map (by assumption) | exact BV.at_nat (by assumption) | exact BV.at_zero))
  | with_reducible refine BV.o2_ixL ?_ ?_
  | ((with_reducible refine' BV.o2_ixT ?hc ?_); (case hc => first | rfl | assumption | exact BV.at_map (by assumption) | exact BV.at_nat (by assumption) | exact BV.at_zero))
  | with_reducible refine BV.o2_ixT ?_ ?_
  | with_reducible refine BV.o2_ixScr ?_ ?_
  | with_reducible refine BV.o2_ixS ?_ ?_ ?_
  | with_reducible refine BV.o2_cat ?_ ?_
  | with_reducible refine BV.o2_rep ?_ ?_ ?_ ?_
  | ((with_reducible refine BV.oc_len_str ?hc ?_); (case hc => first | omega | (simp only [List.length_append, List.length_cons, List.length_nil]; omega)))
  | with_reducible refine BV.oc_len_str ?_ ?_
  | with_reducible refine BV.oc_len_lst ?_
  | with_reducible refine BV.oc_len_tup ?_
  | with_reducible refine BV.oc_len_scr ?_
  | with_reducible refine BV.oc_int ?_
  | with_reducible refine BV.oc_intB ?_
  | with_reducible refine BV.oc_boolB ?_
  | with_reducible refine BV.oc_abs ?_
  | with_reducible refine BV.oc_max2 ?_
  | with_reducible refine BV.oc_min2 ?_
  | ((with_reducible refine BV.oc_isi_tup (b := true) ?hk ?_); (case hk => decide +kernel))
  | ((with_reducible refine BV.oc_isi_tup (b := false) ?hk ?_); (case hk => decide +kernel))
  | ((with_reducible refine BV.oc_isi_lst (b := true) ?hk ?_); (case hk => decide +kernel))
  | ((with_reducible refine BV.oc_isi_lst (b := false) ?hk ?_); (case hk => decide +kernel))
  | ((with_reducible refine BV.oc_isi_str (b := true) ?hk ?_); (case hk => decide +kernel))
  | ((with_reducible refine BV.oc_isi_str (b := false) ?hk ?_); (case hk => decide +kernel))
  | ((with_reducible refine BV.oc_isi_int (b := true) ?hk ?_); (case hk => decide +kernel))
  | ((with_reducible refine BV.oc_isi_int (b := false) ?hk ?_); (case hk => decide +kernel))
  | ((with_reducible refine BV.oc_isi_bl (b := true) ?hk ?_); (case hk => decide +kernel))
  | ((with_reducible refine BV.oc_isi_bl (b := false) ?hk ?_); (case hk => decide +kernel))
  | ((with_reducible refine BV.oc_isi_non (b := true) ?hk ?_); (case hk => decide +kernel))
  | ((with_reducible refine BV.oc_isi_non (b := false) ?hk ?_); (case hk => decide +kernel))
  | with_reducible refine BV.oc_repr_bl ?_
  | with_reducible refine BV.oc_repr_non ?_
  | with_reducible refine BV.oc_repr_str ?_ ?_ ?_)
local macro_rules | `(tactic| walk_at "g") => `(tactic| first
  | ((with_reducible refine' BV.g_ixO ?hh ?_); (case hh => rfl))
  | ((with_reducible refine' BV.g_srcIx ?hh ?hk (fun zz => ?_)); (case hh => rfl); (case hk => decide))
  | with_reducible refine BV.g_ixL ?_
  | with_reducible refine BV.g_ixT ?_
  | ((with_reducible refine' BV.g_catO ?hh ?_); (case hh => rfl))
  | with_reducible refine BV.g_cat ?_
  | with_reducible refine BV.g_rep ?_
  | with_reducible refine BV.g_op ?_
  | with_reducible refine BV.g_un ?_
  | with_reducible refine BV.ga_cons ?_
  | with_reducible refine BV.ga_nil ?_
  | ((with_reducible refine' BV.g_tupleO ?hh ?_); (case hh => rfl))
  | with_reducible refine BV.g_tuple ?_
  | with_reducible refine BV.g_list ?_
  | with_reducible refine BV.g_cb ?_
  | with_reducible refine BV.g_tup ?_
  | with_reducible refine BV.g_lst ?_
  | with_reducible refine BV.gt_test ?_
  | with_reducible refine BV.gt_B ?_
  | with_reducible refine BV.gt_and ?_
  | with_reducible refine BV.gt_or ?_
  | with_reducible refine BV.gt_not ?_
  | with_reducible refine BV.gt_tr ?_
  | with_reducible refine BV.gt_yes ?_
  | with_reducible refine BV.g_if ?_
  | with_reducible refine BV.g_andV ?_
  | with_reducible refine BV.g_orV ?_
  | with_reducible refine BV.g_notV ?_
  | with_reducible refine BV.g_chain ?_
  | with_reducible refine BV.g_slS ?_
  | ((with_reducible refine' BV.g_slScrV ?hh ?_); (case hh => rfl))
  | with_reducible refine BV.g_slL ?_
  | with_reducible refine BV.g_slT ?_
  | with_reducible refine BV.g_slA ?_
  | with_reducible refine BV.go_no ?_
  | with_reducible refine BV.go_some ?_
  | with_reducible refine BV.g_dget1 ?_
  | with_reducible refine BV.g_dget2 ?_
  | ((with_reducible refine' BV.g_dixO ?hh ?_); (case hh => rfl))
  | with_reducible refine BV.g_dix ?_
  | with_reducible refine BV.g_din ?_
  | with_reducible refine BV.g_dnotin ?_
  | ((with_reducible refine' BV.g_fldI ?cl ?na ?he ?hl ?_); (case he => rfl); (case cl => assumption); (case na => assumption); (case hl => rfl))
  | ((with_reducible refine' BV.g_fld ?cl ?na ?_); (case cl => assumption); (case na => assumption))
  | ((with_reducible refine' BV.e_fld ?hl ?_); (case hl => rfl))
  | with_reducible refine BV.g_ends ?_
  | with_reducible refine BV.g_starts ?_
  | with_reducible refine BV.g_join ?_
  | ((with_reducible refine' BV.g_callS ?hh ?_); (case hh => rfl))
  | with_reducible refine BV.g_call ?_
  | with_reducible refine BV.g_cO ?_
  | with_reducible refine BV.g_make ?_
  | with_reducible refine BV.gi_list ?_
  | with_reducible refine BV.gi_tup ?_
  | with_reducible refine BV.gi_sq ?_
  | with_reducible refine BV.gi_str ?_
  | with_reducible refine BV.gi_rng1 ?_
  | with_reducible refine BV.gi_rng2 ?_
  | with_reducible refine BV.gi_rng3 ?_)
local macro_rules | `(tactic| walk_at "e") => `(tactic| first
  | with_reducible refine BV.e_int ?_
  | with_reducible refine BV.e_bl ?_
  | with_reducible refine BV.e_str ?_
  | with_reducible refine BV.e_tup ?_
  | with_reducible refine BV.e_lst ?_
  | with_reducible refine BV.e_scr ?_
  | with_reducible refine BV.e_dk ?_
  | with_reducible refine BV.e_own ?_
  | with_reducible refine BV.e_obj ?_
  | with_reducible refine BV.e_i1 ?_
  | with_reducible refine BV.e_i2 ?_
  | with_reducible refine BV.e_keyS ?_
  | with_reducible refine BV.e_keyI ?_
  | with_reducible refine BV.e_truL ?_
  | with_reducible refine BV.e_truT ?_
  | with_reducible refine BV.e_truB ?_
  | with_reducible refine BV.e_truN ?_
  | with_reducible refine BV.e_truI ?_
  | ((with_reducible refine BV.e_truS ?hc ?_); (case hc => omega))
  | with_reducible refine BV.e_tl ?_
  | with_reducible refine BV.e_tt ?_
  | ((with_reducible refine BV.c_len ?hc ?_); (case hc => rfl))
  | ((with_reducible refine BV.c_rng ?ha ?hb ?_); (case ha => first | omega | (simp only [List.length_map]; omega)); (case hb => first | omega | (simp only [List.length_map]; omega)))
  | ((with_reducible refine BV.c_rng2 ?ha ?hb ?hc ?hd ?_); (case ha => first | omega | (simp only [List.length_map]; omega)); (case hb => first | omega | (simp only [List.length_map]; omega)); (case hc => first | omega | (simp only [List.length_map]; omega)); (case hd => first | omega | (simp only [List.length_map]; omega)))
  | ((with_reducible refine BV.c_lt6 ?ha ?_); (case ha => first | omega | (simp only [List.length_map, List.length_append, List.length_cons, List.length_nil]; omega)))
  | ((with_reducible refine BV.c_le6 ?ha ?_); (case ha => first | omega | (simp only [List.length_map, List.length_append, List.length_cons, List.length_nil]; omega)))
  | with_reducible refine BV.c_i0 ?_
  | with_reducible refine BV.c_i1 ?_
  | with_reducible refine BV.c_non ?_
  | with_reducible refine BV.c_str ?_
  | with_reducible refine BV.c_tup ?_
  | ((with_reducible refine BV.c_dt ?hc ?_); (case hc => first | omega | assumption | (simp only [List.length_cons, List.length_nil]; omega)))
  | ((with_reducible refine BV.c_df ?hc ?_); (case hc => first | omega | assumption | (simp only [List.length_cons, List.length_nil]; omega)))
  | ((with_reducible refine BV.c_ndt ?hc ?_); (case hc => first | omega | assumption | (simp only [List.length_cons, List.length_nil]; omega)))
  | ((with_reducible refine BV.c_ndf ?hc ?_); (case hc => first | omega | assumption | (simp only [List.length_cons, List.length_nil]; omega)))
  | ((with_reducible refine' BV.c_at0 ?hh ?_); (case hh => rfl))
  | with_reducible refine BV.c_nnon ?_
  | with_reducible refine BV.c_nstr ?_
  | with_reducible refine BV.c_ntup ?_
  | with_reducible refine BV.e_ret ?_
  | with_reducible refine BV.c_nt ?_
  | with_reducible refine BV.c_nf ?_
  | with_reducible refine BV.c_tt ?_
  | with_reducible refine BV.c_ff ?_)
local macro_rules | `(tactic| walk_at "r") => `(tactic| first
  | ((with_reducible show BV.Run _ (List.set _ _ _) _ _ _ _ _); dsimp only [List.set])
  | ((with_reducible show BV.Run _ (BV.startS _ _) _ _ _ _ _); dsimp only [BV.startS, List.map, List.length, List.append, List.replicate, List.cons_append, List.nil_append, Nat.reduceSub, Nat.reduceAdd])
  | with_reducible refine BV.run_seq ?_
  | ((with_reducible refine' BV.run_srcSet ?hh ?hk ?_); (case hh => rfl); (case hk => decide))
  | with_reducible refine BV.run_asgN (BV.gn_dk ?_)
  | with_reducible refine BV.run_asgN (BV.gn_dt ?_)
  | with_reducible refine BV.run_asgN (BV.gn_lst (BV.ga_nil ⟨by decide, ?_⟩))
  | ((with_reducible refine' BV.run_asgN (BV.gn_disp1 ?hv ?_)); (case hv => first | exact fun _ => .int _ | exact fun _ => .bl _))
  | ((with_reducible refine' BV.run_asgN (BV.gn_dispV ?hh ?hv ?_)); (case hh => rfl); (case hv => first | exact fun _ => .int _ | exact fun _ => .bl _))
  | with_reducible refine BV.run_asgN (BV.gn_lst ?_)
  | ((with_reducible refine' BV.run_pop ?hh ?_); (case hh => rfl))
  | with_reducible refine BV.run_src ?_
  | with_reducible refine BV.run_asg ?_
  | with_reducible refine BV.run_asgG ?_
  | with_reducible refine BV.run_if ?_
  | ((with_reducible refine' BV.run_app ?hh ?_); (case hh => rfl))
  | ((with_reducible refine' BV.run_retO ?hh ?_); (case hh => rfl))
  | ((with_reducible refine' BV.run_retOD ?hh ?_); (case hh => rfl))
  | with_reducible refine BV.run_retSrc ?_
  | with_reducible refine BV.run_ret ?_
  | with_reducible refine BV.run_retN ?_
  | with_reducible refine BV.run_next ?_
  | with_reducible refine BV.run_brk ?_
  | with_reducible refine BV.run_cont ?_
  | with_reducible refine BV.run_for ?_
  | ((with_reducible refine' BV.run_dput ?hh ?_); (case hh => rfl))
  | ((with_reducible refine' BV.run_fldI ?cl ?na ?he ?hz ?_); (case he => rfl); (case cl => assumption); (case na => assumption); (case hz => exact of_decide_eq_true rfl))
  | with_reducible refine BV.run_drop ?_
  | with_reducible refine BV.gg_name ?_
  | ((with_reducible refine' BV.gg_tup ?hh ?_); (case hh => rfl))
  | with_reducible refine BV.ggs_nil ?_
  | with_reducible refine BV.ggs_cons ?_
  | ((with_reducible refine' BV.gc_name ?hh ?_); (case hh => decide))
  | ((with_reducible refine' BV.gc_tup ?hh ?_); (case hh => rfl))
  | with_reducible refine BV.gcs_nil ?_
  | with_reducible refine BV.gcs_cons ?_)
local macro_rules | `(tactic| walk_at "s") => `(tactic| first | walk_at "v" | walk_at "o" | walk_at "e" | walk_at "g" | walk_at "r")
local macro_rules | `(tactic| walk_at "start") => `(tactic| (dsimp only [L2.cxOf, L2.Cx.nox, L2.Cx.wish, L2.Cx.blk, BV.startS, List.map, List.length, List.append, List.replicate, List.cons_append, List.nil_append, List.tail, Nat.reduceSub, Nat.reduceAdd, Nat.sub_self, Nat.sub_zero]))
local macro_rules | `(tactic| walk_at "w") => `(tactic| repeat walk_at "s")
local macro_rules | `(tactic| walk_at "o") => `(tactic| first
  | with_reducible refine BV.o2_inN ?_
  | with_reducible refine BV.o2_inZ ?_
  | ((with_reducible refine' BV.o2_ixQL ?hc ?_); (case hc => first | rfl | assumption | exact BV.at_map (by assumption) | exact BV.at_nat (by assumption) | exact BV.at_zero))
  | ((with_reducible refine' BV.o2_ixQT ?hc ?_); (case hc => first | rfl | assumption | exact BV.at_map (by assumption) | exact BV.at_nat (by assumption) | exact BV.at_zero))
  | with_reducible refine BV.o2_ixQL ?_ ?_
  | with_reducible refine BV.o2_ixQT ?_ ?_
  | with_reducible refine BV.oc_gcd ?_
  | with_reducible refine BV.oc_repr_int ?_ ?_
  | with_reducible refine BV.oc_reprD ?_ ?_)
local macro_rules | `(tactic| walk_at "g") => `(tactic| first
  | with_reducible refine BV.g_ixQ ?_
  | with_reducible refine BV.g_opRS ?_
  | with_reducible refine BV.g_callX ?_
  | with_reducible refine BV.g_lrg ?_
  | with_reducible refine BV.gr_1 ?_
  | with_reducible refine BV.gr_2 ?_
  | ((with_reducible refine' BV.g_xf ?hh ?hk ?_); (case hh => rfl); (case hk => rfl)))
local macro_rules | `(tactic| walk_at "r") => `(tactic| first
  | with_reducible refine BV.run_par ?_)
local macro_rules | `(tactic| walk_at "o") => `(tactic| first
  | with_reducible refine BV.oc_strI ?_ ?_
  | with_reducible refine BV.oc_divmod ?_ ?_)
local macro_rules | `(tactic| walk_at "g") => `(tactic| first
  | with_reducible refine BV.g_mthF ?_
  | with_reducible refine BV.g_mthX ?_
  | with_reducible refine BV.g_makeX ?_)
local macro_rules | `(tactic| walk_at "r") => `(tactic| first
  | with_reducible refine BV.run_dropS ?_)
local macro_rules | `(tactic| walk_at "e") => `(tactic| first
  | with_reducible refine BV.c_le1 ?_
  | with_reducible refine BV.c_le0 ?_
  | with_reducible refine BV.c_ne1 ?_
  | with_reducible refine BV.c_ne0 ?_)
section
variable {P : Program} {wd : World} {K : PySem.W.Frag} {mg : Str → Option Value} {base : Heap} {a : Ad}
/-- an int between, or none -/
def isI (x : Dat) (lo hi : Int) : Bool := match x with
  | .int z => decide (lo ≤ z) && decide (z ≤ hi)
  | _ => false
def Num (x : Dat) : Prop := (∃ z, x = .int z) ∨ ∃ b, x = .bl b
def S_is_integer : List Dat → (Dat → Prop) → Prop := fun ds R => ∃ (x : Dat) (lo hi : Int), ds = [x, .int lo, .int hi] ∧ Num x ∧ R (.bl (isI x lo hi))
theorem ok_is_integer (T : Tx P K mg a) : FnOk P wd K mg base CX0 1 a.f_is_integer a.d_is_integer ["thing", "low", "high"] (spF K S_is_integer) :=
  okF T.F_is_integer sc_is_integer (fun ds R h => by obtain ⟨x, lo, hi, rfl, hx, hR⟩ := h; rfl) fun cdv A outer s H E hr => by
  refine ⟨_, (pss_one (ps_ret (pe_and (pe_callB (kIsi K rfl) (by rfl) T.n_isinstance (by decide +kernel) (pa_cons (pv 0) (pa_cons (pe_bltn (v := .ty "int") (by rfl) T.n_int (by decide +kernel) rfl) pa_nil))) (pe_and (pe_not (pe_callB (kIsi K rfl) (by rfl) T.n_isinstance (by decide +kernel) (pa_cons (pv 0) (pa_cons (pe_bltn (v := .ty "bool") (by rfl) T.n_bool (by decide +kernel) rfl) pa_nil)))) (pe_one (pe_chain op_le op_le (pv 1) (pv 0) (pv 2))))))), fun ds R h => ?_⟩
  obtain ⟨x, lo, hi, rfl, hx, hR⟩ := h
  walk_at "start"
  rcases hx with ⟨z, rfl⟩ | ⟨b, rfl⟩
  · have hR : R (.bl (decide (lo ≤ z) && decide (z ≤ hi))) := hR
    walk_at "w"
    refine BV.c_dec (fun h1 => ?_) fun h1 => ?_
    · rw [decide_eq_true h1, Bool.true_and] at hR
      walk_at "w"
      exact hR
    · rw [decide_eq_false h1, Bool.false_and] at hR
      walk_at "w"
      exact hR
  · have hR : R (.bl false) := hR
    walk_at "w"
    exact hR
def S_check_number : List Dat → (Dat → Prop) → Prop := fun ds R => ∃ z lo hi : Int, ds = [.int z, .int lo, .int hi] ∧ lo ≤ z ∧ z ≤ hi ∧ R .non
theorem ok_check_number (T : Tx P K mg a) : FnOk P wd K mg base CX0 2 a.f_check_number a.d_check_number ["thing", "low", "high"] (spF K S_check_number) :=
  okF T.F_check_number sc_check_number (fun ds R h => by obtain ⟨z, lo, hi, rfl, h1, h2, hR⟩ := h; rfl) fun cdv A outer s H E hr => by
  refine ⟨_, (pss_one (ps_if (pt_not (pt_val (pe_call (ok_is_integer T) (hr.mono (by decide)) (by rfl) T.g_is_integer T.k_is_integer T.b_is_integer .nil pass0 (pa_cons (pv 0) (pa_cons (pv 1) (pa_cons (pv 2) pa_nil))))))
  (pss_one (ps_never))
  pss_nil)), fun ds R h => ?_⟩
  obtain ⟨z, lo, hi, rfl, h1, h2, hR⟩ := h
  walk_at "start"
  walk_at "w"
  refine ⟨.int z, lo, hi, rfl, .inl ⟨_, rfl⟩, ?_⟩
  have e : isI (.int z) lo hi = true := by
    show (decide (lo ≤ z) && decide (z ≤ hi)) = true
    rw [decide_eq_true h1, decide_eq_true h2]
    rfl
  rw [e]
  walk_at "w"
  exact hR
def S_is_listed : List Dat → (Dat → Prop) → Prop := fun ds R => ∃ x : Dat, ds = [x] ∧ ((((∃ xs, x = .tup xs) ∨ ∃ xs, x = .lst xs) ∧ R (.bl true)) ∨ ((x = .non ∨ ∃ s, x = .str s) ∧ R (.bl false)))
theorem ok_is_listed (T : Tx P K mg a) : FnOk P wd K mg base CX0 1 a.f_is_listed a.d_is_listed ["thing"] (spF K S_is_listed) :=
  okF T.F_is_listed sc_is_listed (fun ds R h => by obtain ⟨x, rfl, hx⟩ := h; rfl) fun cdv A outer s H E hr => by
  refine ⟨_, (pss_one (ps_ret (pe_or (pe_callB (kIsi K rfl) (by rfl) T.n_isinstance (by decide +kernel) (pa_cons (pv 0) (pa_cons (pe_bltn (v := .ty "tuple") (by rfl) T.n_tuple (by decide +kernel) rfl) pa_nil))) (pe_one (pe_callB (kIsi K rfl) (by rfl) T.n_isinstance (by decide +kernel) (pa_cons (pv 0) (pa_cons (pe_bltn (v := .ty "list") (by rfl) T.n_list (by decide +kernel) rfl) pa_nil))))))), fun ds R h => ?_⟩
  obtain ⟨x, rfl, hx⟩ := h
  walk_at "start"
  rcases hx with ⟨⟨xs, rfl⟩ | ⟨xs, rfl⟩, hR⟩ | ⟨rfl | ⟨s, rfl⟩, hR⟩
  · walk_at "w"
    exact hR
  · walk_at "w"
    exact hR
  · walk_at "w"
    exact hR
  · walk_at "w"
    exact hR
@[reducible] def nsF (f : Form) : List (Str × Dat) := [("since", natD f.1), ("period", natD f.2.1), ("firsts", natsD f.2.2.1), ("later", natsD f.2.2.2)]
def S_form_of (a : Ad) : List Dat → (Dat → Prop) → Prop := fun ds R => ∃ f : Form, ds = [.obj a.C_NumberSet (nsF f)] ∧ R (formD f)
theorem ok_form_of (T : Tx P K mg a) : FnOk P wd K mg base CX0 1 a.f_form_of a.d_form_of ["numbers"] (spF K (S_form_of a)) :=
  okF T.F_form_of sc_form_of (fun ds R h => by obtain ⟨f, rfl, hR⟩ := h; rfl) fun cdv A outer s H E hr => by
  refine ⟨_, (pss_one (ps_ret (pe_tup (pa_cons (pe_fld (pv 0) rfl) (pa_cons (pe_fld (pv 0) rfl) (pa_cons (pe_fld (pv 0) rfl) (pa_cons (pe_fld (pv 0) rfl) pa_nil))))))), fun ds R h => ?_⟩
  obtain ⟨f, rfl, hR⟩ := h
  walk_at "start"
  have cl := T.l_NumberSet; have x1 := T.x_NumberSet_since; have x2 := T.x_NumberSet_period; have x3 := T.x_NumberSet_firsts; have x4 := T.x_NumberSet_later
  walk_at "w"
  exact hR
theorem oke_WrongThingu_initu (T : Tx P K mg a) : FnOk P wd K mg base CX0 1 a.f_WrongThingu_initu a.d_WrongThingu_initu ["self", "thing"] (spE K a.C_WrongThing (sE1 "thing" (fun y => True))) :=
  okE1 (k := 0) (n := 1) T.F_WrongThingu_initu sc_WrongThingu_initu T.su_WrongThingu_initu rfl rfl rfl rfl (by decide) (fun _ => rfl) (fun _ => rfl) (fun _ => rfl) (fun _ => rfl) rfl rfl (by decide) fun A outer s H E hr => by
  refine ⟨_, (pa_cons pe_str pa_nil), (pss_one (ps_ost (pv 0) (pv 1))), fun y hy => ?_⟩
  obtain ⟨⟩ := hy
  unfold BV.startE
  dsimp only [NdefX.ncx, List.map, List.replicate, List.cons_append, List.nil_append, List.append]
  walk_at "w"
  exact Nat.le_of_ble_eq_true rfl
theorem strk (k : Int) (h : -1 ≤ k) (h2 : k ≤ 5) : (sW (toString k)).length ≤ 100 := by
  have : k = -1 ∨ k = 0 ∨ k = 1 ∨ k = 2 ∨ k = 3 ∨ k = 4 ∨ k = 5 := by omega
  rcases this with rfl | rfl | rfl | rfl | rfl | rfl | rfl <;> decide +kernel
theorem oke_WrongItemu_initu (T : Tx P K mg a) : FnOk P wd K mg base CX0 1 a.f_WrongItemu_initu a.d_WrongItemu_initu ["self", "place"] (spE K a.C_WrongItem (sE1 "place" (fun y => ∃ k : Int, y = .int k ∧ -1 ≤ k ∧ k ≤ 5))) :=
  okE1 (k := 0) (n := 1) T.F_WrongItemu_initu sc_WrongItemu_initu T.su_WrongItemu_initu rfl rfl rfl rfl (by decide) (fun _ => rfl) (fun _ => rfl) (fun _ => rfl) (fun _ => rfl) rfl rfl (by decide) fun A outer s H E hr => by
  refine ⟨_, (pa_cons (pe_op op_addS (pe_op op_addS pe_str (pe_callTy call_strI (by rfl) T.n_str (by decide +kernel) (pa_cons (pv 1) pa_nil))) pe_str) pa_nil), (pss_one (ps_ost (pv 0) (pv 1))), fun y hy => ?_⟩
  obtain ⟨k, rfl, hk, hk2⟩ := hy
  unfold BV.startE
  dsimp only [NdefX.ncx, List.map, List.replicate, List.cons_append, List.nil_append, List.append]
  have hl : k.natAbs.log2 < 1920 := Nat.lt_of_le_of_lt (Nat.log2_le_self _) (by omega)
  have e0 : (Str.ofString "the thing at the place ").cps.toList.length = 23 := by decide +kernel
  have e1 : (Str.ofString " is wrong").cps.toList.length = 9 := by decide +kernel
  have e2 := strk k hk hk2
  walk_at "w"
  · exact hl
  walk_at "w"
  exact Nat.le_of_ble_eq_true rfl
theorem isI_nat {k : Nat} {lo hi : Int} (h1 : lo ≤ (k : Int)) (h2 : (k : Int) ≤ hi) : isI (natD k) lo hi = true := by
  show (decide (lo ≤ (k : Int)) && decide ((k : Int) ≤ hi)) = true
  rw [decide_eq_true h1, decide_eq_true h2]
  rfl
theorem isI_int {z lo hi : Int} (h1 : lo ≤ z) (h2 : z ≤ hi) : isI (.int z) lo hi = true := by
  show (decide (lo ≤ z) && decide (z ≤ hi)) = true
  rw [decide_eq_true h1, decide_eq_true h2]
  rfl
def S_cnX (a : Ad) : List Dat → (Dat → Prop) → RX → Prop := fun ds R RE => ∃ (x : Dat) (lo hi : Int), ds = [x, .int lo, .int hi] ∧ Num x ∧ (isI x lo hi = true → R .non) ∧ (isI x lo hi = false → RE a.C_BadNumber [("thing", x)])
theorem okx_check_number (T : Tx P K mg a) : FnOk P wd K mg base (L2.CX P wd) 3 a.f_check_number a.d_check_number ["thing", "low", "high"] (spX K (S_cnX a)) :=
  okX T.F_check_number sc_check_number (fun ds R RE h => by obtain ⟨x, lo, hi, rfl, hx, hR, hX⟩ := h; rfl) fun cdv A outer s H E hr => by
  have tk : Takes (cxOf (L2.CX P wd) P wd K mg base N_check_number "check_number" (defScope s_check_number) a.f_check_number cdv A outer s H E) (fun cls d _ H => E cls d H) := takes_of rfl rfl rfl rfl
  have po := passes_of (X := cxOf (L2.CX P wd) P wd K mg base N_check_number "check_number" (defScope s_check_number) a.f_check_number cdv A outer s H E) rfl
  refine ⟨_, (pss_one (ps_if (pt_not (pt_val (pe_call (ok_is_integer T) (hr.mono (by decide)) (by rfl) T.g_is_integer T.k_is_integer T.b_is_integer .nil pass0 (pa_cons (pv 0) (pa_cons (pv 1) (pa_cons (pv 2) pa_nil))))))
  (pss_one (ps_raise rfl tk (pmk_oex T.oe_BadNumber T.oi_BadNumber T.ot_WrongThingu_initu (oke_WrongThingu_initu T) (hr.mono (by decide)) T.b_WrongThingu_initu .nil pass0 (by rfl) T.g_BadNumber (pa_cons (pv 0) pa_nil))))
  pss_nil)), fun ds R RE h => ?_⟩
  obtain ⟨x, lo, hi, rfl, hx, hR, hX⟩ := h
  walk_at "start"
  walk_at "w"
  refine ⟨x, lo, hi, rfl, hx, ?_⟩
  cases e : isI x lo hi with
  | true =>
    have := hR e
    walk_at "w"
    exact this
  | false =>
    have hX := hX e
    walk_at "w"
    refine run_raise T.oe_BadNumber T.sx_BadNumber (fun ds fs h f hf => ?_) ?_
    · obtain ⟨y, rfl, rfl, _⟩ := h
      rw [List.mem_singleton] at hf
      subst hf
      exact T.xn_BadNumber_thing
    · walk_at "w"
      exact ⟨Nat.le_of_ble_eq_true rfl, [("thing", x)], ⟨_, rfl, rfl, trivial⟩, hX⟩

end

section
variable {P : Program} {wd : World} {K : PySem.W.Frag} {mg : Str → Option Value} {base : Heap} {a : Ad}
def S_law_source : List Dat → Prop := fun ds => ∃ (ns : List Int) (k : Nat), ds = [.scr ns, .int (k : Int)] ∧ ns.length ≤ 63 ∧ (∀ z ∈ ns, Builtin.Int.intBits z ≤ 1048576) ∧ k ≤ 100
theorem ok__law_source (T : Tx P K mg a) : FnOk P wd K mg base CX0 1 a.f__law_source a.d__law_source ["script", "place"] (spN K S_law_source) :=
  okN T.F__law_source sc__law_source (fun ds h => by obtain ⟨ns, k, rfl, h1, h2, h3⟩ := h; rfl) fun cdv A outer s H E hr => by
  refine ⟨_, (pss_cons (ps_set (i := 2) sc__law_source.nd rfl (Or.inl rfl) (pe_ifExp (pt_cmpR op_lt (pv 1) (pe_callB (kLen K rfl) (by rfl) T.n_len (by decide +kernel) (pa_cons (pv 0) pa_nil)) (nomark _)) (pe_ix (kIxL K rfl) (pv 0) (pv 1) (fun _ _ => rfl)) (pe_op op_add (pe_op op_mul pe_int (pv 1)) pe_int)))
 (pss_cons (ps_set (i := 3) sc__law_source.nd rfl (Or.inl rfl) (pe_op op_add (pe_op op_mul pe_int (pv 1)) pe_int))
 (pss_cons (ps_for PassesOwn.never rfl (pi_list (pe_slice sl_list (pv 0) po_none (po_some pe_int))) (pg_name (i := 4) sc__law_source.nd rfl (Or.inl rfl))
  (pss_one (ps_set (i := 3) sc__law_source.nd rfl (Or.inl rfl) (pe_op op_modN (pe_callTy call_int_ (by rfl) T.n_int (by decide +kernel) (pa_cons (pe_op op_add (pe_op op_mul (pv 3) pe_int) (pe_op op_modN (pe_callTy call_int_ (by rfl) T.n_int (by decide +kernel) (pa_cons (pv 4) pa_nil)) pe_int)) pa_nil)) pe_int))))
 (pss_cons (ps_set (i := 3) sc__law_source.nd rfl (Or.inl rfl) (pe_op op_modN (pe_callTy call_int_ (by rfl) T.n_int (by decide +kernel) (pa_cons (pe_op op_add (pe_op op_mul (pv 3) pe_int) (pe_op op_modN (pe_callTy call_int_ (by rfl) T.n_int (by decide +kernel) (pa_cons (pv 2) pa_nil)) pe_int)) pa_nil)) pe_int))
 (pss_cons (ps_set (i := 5) sc__law_source.nd rfl (Or.inl rfl) (pe_callB call_abs_ (by rfl) T.n_abs (by decide +kernel) (pa_cons (pv 2) pa_nil)))
 (pss_cons (ps_if (pt_cmpR op_lt (pv 5) (pe_op op_pow pe_int pe_int) (nomark _))
  (pss_one (ps_ret (pe_lst (pa_cons pe_int (pa_cons (pv 3) (pa_cons pe_int pa_nil))))))
  pss_nil)
 (pss_cons (ps_if (pt_cmpR op_gt (pe_op op_shr (pv 5) pe_int) pe_int (nomark _))
  (pss_one (ps_set (i := 5) sc__law_source.nd rfl (Or.inl rfl) (pe_op op_sub (pv 5) (pe_op op_shlW (pe_op op_shr (pv 5) pe_int) pe_int))))
  pss_nil)
 (pss_one (ps_ret (pe_lst (pa_cons (pv 5) (pa_cons (pv 3) (pa_cons pe_int pa_nil))))))))))))), fun ds h => ?_⟩
  obtain ⟨ns, k, rfl, h1, h2, h3⟩ := h
  walk_at "start"
  refine run_seq (run_asg (G.mono (R := fun d => ∃ z, d = .int z ∧ Builtin.Int.intBits z ≤ 1048576) ?_ fun d ⟨z, e, hz⟩ => ?_))
  · walk_at "w"
    refine BV.c_dec (fun hk => ?_) fun hk => ?_
    · have hl : ns[k]? = some ns[k] := List.getElem?_eq_getElem (by omega)
      have hb := h2 ns[k] (List.getElem_mem _)
      generalize ns[k] = z at hl hb
      walk_at "w"
      refine o2_ixScr (at_nat hl) ?_
      exact ⟨z, rfl, hb⟩
    · walk_at "w"
      have hb : Builtin.Int.intBits (7 * (k : Int) + 5) ≤ 20 := bits_le (by omega)
      omega
  · subst e
    walk_at "w"
    refine ⟨fun i ρ' => ∃ (y : Int) (s4 : Slot), ρ' = [.d (.scr ns), .d (.int (k : Int)), .d (.int z), .d (.int y), s4, .no], ⟨_, _, rfl⟩, fun i x ρ' hx hw => ?_, fun ρ' hw => ?_⟩
    · obtain ⟨y, s4, rfl⟩ := hw
      have hx2 : ∃ u, x = .int u := by
        have := List.mem_of_getElem? hx
        unfold BV.cut at this
        obtain ⟨u, _, e⟩ := List.mem_map.mp (List.mem_of_mem_drop (List.mem_of_mem_take this))
        exact ⟨u, e.symm⟩
      obtain ⟨u, rfl⟩ := hx2
      walk_at "w"
      exact ⟨_, _, rfl⟩
    · obtain ⟨y, s4, rfl⟩ := hw
      have hb := bits_abs_shr (k := Int.toNat 2500) hz
      walk_at "w"
      refine ⟨fun _ => ?_, fun _ => ?_⟩
      · walk_at "w"
        exact ⟨_, _, _, rfl⟩
      · walk_at "w"
        refine ⟨fun _ => ?_, fun _ => ?_⟩
        · walk_at "w"
          exact ⟨_, _, _, rfl⟩
        · walk_at "w"
          exact ⟨_, _, _, rfl⟩
def S_law_pick : List Dat → (Dat → Prop) → Prop := fun ds R => ∃ m : Int, ds = [.int m] ∧ 0 < m ∧ m ≤ 100000 ∧ ∀ d : Nat, (d : Int) < m → R (.int (d : Int))
theorem ok__law_pick (T : Tx P K mg a) : FnOk P wd K mg base CX0 1 a.f__law_pick a.d__law_pick ["source", "many"] (spS K S_law_pick) :=
  okS T.F__law_pick sc__law_pick (fun ds R h => by obtain ⟨m, rfl, h1, h2, hR⟩ := h; rfl) fun cdv A outer s H E hr => by
  refine ⟨_, (pss_cons (ps_if (pt_cmpR op_gt (pe_ix (kIxL K rfl) (pv 0) pe_int (fun _ _ => rfl)) pe_int (nomark _))
  (pss_cons (ps_set (i := 2) sc__law_pick.nd rfl (Or.inl rfl) (pe_op op_modN (pe_callTy call_int_ (by rfl) T.n_int (by decide +kernel) (pa_cons (pe_ix (kIxL K rfl) (pv 0) pe_int (fun _ _ => rfl)) pa_nil)) (pv 1)))
 (pss_cons (ps_asg (pe_op op_fdivN (pe_ix (kIxL K rfl) (pv 0) pe_int (fun _ _ => rfl)) (pv 1)) (pg_sub (pv 0) pe_int set_list))
 (pss_one (ps_ret (pv 2)))))
  pss_nil)
 (pss_cons (ps_asg (pe_op op_add (pe_ix (kIxL K rfl) (pv 0) pe_int (fun _ _ => rfl)) pe_int) (pg_sub (pv 0) pe_int set_list))
 (pss_cons (ps_set (i := 3) sc__law_pick.nd rfl (Or.inl rfl) (pe_op op_modN (pe_callTy call_int_ (by rfl) T.n_int (by decide +kernel) (pa_cons (pe_op op_mul (pe_op op_add (pe_ix (kIxL K rfl) (pv 0) pe_int (fun _ _ => rfl)) (pe_op op_mul pe_int (pe_ix (kIxL K rfl) (pv 0) pe_int (fun _ _ => rfl)))) pe_int) pa_nil)) pe_int))
 (pss_cons (ps_set (i := 3) sc__law_pick.nd rfl (Or.inl rfl) (pe_op op_modN (pe_callTy call_int_ (by rfl) T.n_int (by decide +kernel) (pa_cons (pe_op op_add (pe_op op_add (pe_op op_mul (pv 3) (pv 3)) (pe_op op_mul pe_int (pe_ix (kIxL K rfl) (pv 0) pe_int (fun _ _ => rfl)))) (pe_ix (kIxL K rfl) (pv 0) pe_int (fun _ _ => rfl))) pa_nil)) pe_int))
 (pss_cons (ps_set (i := 3) sc__law_pick.nd rfl (Or.inl rfl) (pe_op op_modN (pe_callTy call_int_ (by rfl) T.n_int (by decide +kernel) (pa_cons (pe_op op_add (pe_op op_mul (pv 3) pe_int) pe_int) pa_nil)) pe_int))
 (pss_cons (ps_set (i := 3) sc__law_pick.nd rfl (Or.inl rfl) (pe_op op_modN (pe_callTy call_int_ (by rfl) T.n_int (by decide +kernel) (pa_cons (pe_op op_add (pe_op op_mul (pv 3) (pv 3)) (pv 3)) pa_nil)) pe_int))
 (pss_one (ps_ret (pe_op op_modN (pe_callTy call_int_ (by rfl) T.n_int (by decide +kernel) (pa_cons (pe_op op_fdivN (pv 3) pe_int) pa_nil)) (pv 1)))))))))), fun sA ds R h => ?_⟩
  obtain ⟨m, rfl, h1, h2, hR⟩ := h
  walk_at "start"
  have hfin : ∀ z : Int, R (.int (z.fmod m)) := fun z => by
    have h3 := Int.fmod_nonneg_of_pos z h1
    have h4 := Int.fmod_lt_of_pos z h1
    have h5 := hR (z.fmod m).toNat (by omega)
    rw [Int.toNat_of_nonneg h3] at h5
    exact h5
  walk_at "w"
  refine ⟨fun _ => ?_, fun _ => ?_⟩
  · walk_at "w"
    exact hfin _
  · walk_at "w"
    exact hfin _

end

section
variable {P : Program} {wd : World} {K : PySem.W.Frag} {mg : Str → Option Value} {base : Heap} {a : Ad}
/-- ascending numbers below a bound -/
def Asc (l : List Nat) (b : Nat) : Prop := l.Pairwise (· < ·) ∧ ∀ n ∈ l, n < b
theorem Asc.len : ∀ {l : List Nat} {lo b : Nat}, l.Pairwise (· < ·) → (∀ n ∈ l, lo ≤ n ∧ n < b) → l.length ≤ b - lo
  | [], _, _, _, _ => Nat.zero_le _
  | n :: l, lo, b, h1, h2 => by
    have h3 := List.pairwise_cons.mp h1
    have h4 := h2 n List.mem_cons_self
    have := Asc.len (lo := n + 1) h3.2 fun m hm => ⟨h3.1 m hm, (h2 m (List.mem_cons_of_mem _ hm)).2⟩
    rw [List.length_cons]
    omega
theorem Asc.length {l : List Nat} {b : Nat} (h : Asc l b) : l.length ≤ b := by
  have := Asc.len (lo := 0) h.1 fun n hn => ⟨Nat.zero_le _, h.2 n hn⟩
  omega
theorem Asc.step {l : List Nat} {b i : Nat} (h : Asc l b) (h0 : 0 < i) (hi : i < l.length) : l[i - 1] < l[i] :=
  List.pairwise_iff_getElem.mp h.1 (i - 1) i (by omega) hi (by omega)
/-- a row of numbers, a tuple or a list -/
def SeqN (x : Dat) (l : List Nat) : Prop := x = natsD l ∨ x = .lst (l.map natD)
def S_checked_members : List Dat → (Dat → Prop) → Prop := fun ds R => ∃ (x : Dat) (l : List Nat) (b s : Nat), ds = [x, .int (b : Int), .int (s : Int)] ∧ SeqN x l ∧ Asc l b ∧ b ≤ 5000 ∧ R (natsD l)
theorem ok_checked_members (T : Tx P K mg a) : FnOk P wd K mg base CX0 2 a.f_checked_members a.d_checked_members ["thing", "below", "shift"] (spF K S_checked_members) :=
  okF T.F_checked_members sc_checked_members (fun ds R h => by obtain ⟨x, l, b, s, rfl, hx, ha, hb, hR⟩ := h; rfl) fun cdv A outer s H E hr => by
  refine ⟨_, (pss_cons (ps_for PassesOwn.never rfl (pi_range1 rfl T.n_range (pa_cons (pe_callB (kLen K rfl) (by rfl) T.n_len (by decide +kernel) (pa_cons (pv 0) pa_nil)) pa_nil)) (pg_name (i := 3) sc_checked_members.nd rfl (Or.inl rfl))
  (pss_one (ps_if (PW.pt (pw_or (pt_not (pt_val (pe_call (ok_is_integer T) (hr.mono (by decide)) (by rfl) T.g_is_integer T.k_is_integer T.b_is_integer .nil pass0 (pa_cons (pe_ix (kIxQ K rfl) (pv 0) (pv 3) (fun _ _ => rfl)) (pa_cons pe_int (pa_cons (pe_op op_sub (pv 1) pe_int) pa_nil)))))) (pw_or1 (PW.pt (pw_and (pt_cmpR op_gt (pv 3) pe_int (nomark _)) (pw_and1 (pt_cmpR op_ge (pe_ix (kIxQ K rfl) (pv 0) (pe_op op_sub (pv 3) pe_int) (fun _ _ => rfl)) (pe_ix (kIxQ K rfl) (pv 0) (pv 3) (fun _ _ => rfl)) (nomark _))))))))
  (pss_one (ps_never))
  pss_nil)))
 (pss_one (ps_ret (pe_callTy (kTupOf K rfl) (by rfl) T.n_tuple (by decide +kernel) (pa_cons (pv 0) pa_nil))))), fun ds R h => ?_⟩
  obtain ⟨x, l, b, s, rfl, hx, ha, hb, hR⟩ := h
  walk_at "start"
  have hl := ha.length
  have eL : (l.map natD).length = l.length := List.length_map _
  have at0 : ∀ {i : Nat} (hi : i < l.length), atI (l.map natD) (i : Int) = some (natD l[i]) := fun {i} hi => at_map (List.getElem?_eq_getElem hi)
  have at1 : ∀ {i : Nat} (hi : i < l.length) (h0 : 0 < i), atI (l.map natD) ((i : Int) - 1) = some (natD l[i - 1]) := fun {i} hi h0 => by
    have e : (i : Int) - 1 = ((i - 1 : Nat) : Int) := by omega
    rw [e]
    exact at_map (List.getElem?_eq_getElem (by omega))
  rcases hx with rfl | rfl
  · unfold natsD
    walk_at "w"
    refine ⟨fun i ρ' => ∃ s3, ρ' = [.d (natsD l), .d (.int (b : Int)), .d (.int (s : Int)), s3], ⟨_, rfl⟩, fun i x ρ' hx hw => ?_, fun ρ' hw => ?_⟩
    · obtain ⟨s3, rfl⟩ := hw
      obtain ⟨hi, rfl⟩ := rng0_get hx
      rw [Int.toNat_natCast, List.length_map] at hi
      have h1 := ha.2 _ (List.getElem_mem hi)
      have hr0 : l[i]? = some l[i] := List.getElem?_eq_getElem hi
      unfold natsD
      walk_at "w"
      refine ⟨_, _, _, rfl, .inl ⟨_, rfl⟩, ?_⟩
      rw [show isI (.int ((l[i] : Nat) : Int)) 0 ((b : Int) - 1) = true from by
        show (decide ((0 : Int) ≤ ((l[i] : Nat) : Int)) && decide (((l[i] : Nat) : Int) ≤ (b : Int) - 1)) = true
        rw [decide_eq_true (by omega), decide_eq_true (by omega)]
        rfl]
      walk_at "w"
      refine BV.c_dec (fun h0 => ?_) fun h0 => ?_
      · walk_at "w"
        refine o2_ixQT (at1 hi (by omega)) ?_
        walk_at "w"
        have hst := ha.step (by omega) hi
        rw [decide_eq_false (by omega)]
        refine ⟨fun z => (nomatch z), fun _ => ?_⟩
        walk_at "w"
        exact ⟨_, rfl⟩
      · walk_at "w"
        exact ⟨_, rfl⟩
    · obtain ⟨s3, rfl⟩ := hw
      unfold natsD
      walk_at "w"
      exact hR
  · walk_at "w"
    refine ⟨fun i ρ' => ∃ s3, ρ' = [.d (.lst (l.map natD)), .d (.int (b : Int)), .d (.int (s : Int)), s3], ⟨_, rfl⟩, fun i x ρ' hx hw => ?_, fun ρ' hw => ?_⟩
    · obtain ⟨s3, rfl⟩ := hw
      obtain ⟨hi, rfl⟩ := rng0_get hx
      rw [Int.toNat_natCast, List.length_map] at hi
      have h1 := ha.2 _ (List.getElem_mem hi)
      have hr0 : l[i]? = some l[i] := List.getElem?_eq_getElem hi
      walk_at "w"
      refine ⟨_, _, _, rfl, .inl ⟨_, rfl⟩, ?_⟩
      rw [show isI (.int ((l[i] : Nat) : Int)) 0 ((b : Int) - 1) = true from by
        show (decide ((0 : Int) ≤ ((l[i] : Nat) : Int)) && decide (((l[i] : Nat) : Int) ≤ (b : Int) - 1)) = true
        rw [decide_eq_true (by omega), decide_eq_true (by omega)]
        rfl]
      walk_at "w"
      refine BV.c_dec (fun h0 => ?_) fun h0 => ?_
      · walk_at "w"
        refine o2_ixQL (at1 hi (by omega)) ?_
        walk_at "w"
        have hst := ha.step (by omega) hi
        rw [decide_eq_false (by omega)]
        refine ⟨fun z => (nomatch z), fun _ => ?_⟩
        walk_at "w"
        exact ⟨_, rfl⟩
      · walk_at "w"
        exact ⟨_, rfl⟩
    · obtain ⟨s3, rfl⟩ := hw
      walk_at "w"
      exact hR
theorem flat_map (n : Nat) (T : List Bool) : (List.replicate n (T.map Dat.bl)).flatten = ((List.replicate n T).flatten).map Dat.bl := by
  rw [List.map_flatten, List.map_replicate]
def S_least_period : List Dat → (Dat → Prop) → Prop := fun ds R => ∃ T : List Bool, ds = [blsD T] ∧ 0 < T.length ∧ T.length ≤ 5000 ∧ R (natD (lp T))
theorem ok_least_period (T : Tx P K mg a) : FnOk P wd K mg base CX0 1 a.f_least_period a.d_least_period ["row"] (spF K S_least_period) :=
  okF T.F_least_period sc_least_period (fun ds R h => by obtain ⟨T, rfl, h0, hT, hR⟩ := h; rfl) fun cdv A outer s H E hr => by
  refine ⟨_, (pss_cons (ps_for PassesOwn.never rfl (pi_range2 rfl T.n_range (pa_cons pe_int (pa_cons (pe_op op_add (pe_callB (kLen K rfl) (by rfl) T.n_len (by decide +kernel) (pa_cons (pv 0) pa_nil)) pe_int) pa_nil))) (pg_name (i := 1) sc_least_period.nd rfl (Or.inl rfl))
  (pss_one (ps_if (PW.pt (pw_and (pt_cmpR op_eq (pe_op op_mul (pe_op op_fdivN (pe_callB (kLen K rfl) (by rfl) T.n_len (by decide +kernel) (pa_cons (pv 0) pa_nil)) (pv 1)) (pv 1)) (pe_callB (kLen K rfl) (by rfl) T.n_len (by decide +kernel) (pa_cons (pv 0) pa_nil)) (nomark _)) (pw_and1 (pt_cmpR (kEqD K rfl hr.units) (pv 0) (pe_op op_rep (pe_slice sl_list (pv 0) po_none (po_some (pv 1))) (pe_op op_fdivN (pe_callB (kLen K rfl) (by rfl) T.n_len (by decide +kernel) (pa_cons (pv 0) pa_nil)) (pv 1))) (nomark _)))))
  (pss_one (ps_ret (pv 1)))
  pss_nil)))
 (pss_one (ps_ret (pe_callB (kLen K rfl) (by rfl) T.n_len (by decide +kernel) (pa_cons (pv 0) pa_nil))))), fun ds R h => ?_⟩
  obtain ⟨T, rfl, h0, hT, hR⟩ := h
  walk_at "start"
  have eL : (T.map Dat.bl).length = T.length := List.length_map _
  unfold blsD
  walk_at "w"
  refine ⟨fun i ρ' => ∃ s1, ρ' = [.d (blsD T), s1] ∧ ∀ d, 0 < d → d ≤ i → isPer T d = false, ⟨_, rfl, fun d h1 h2 => by omega⟩, fun i x ρ' hx hw => ?_, fun ρ' hw => ?_⟩
  · obtain ⟨s1, rfl, hd⟩ := hw
    obtain ⟨hi, rfl⟩ := rngI_get' hx
    rw [eL] at hi
    have e1 : (T.map Dat.bl).length = T.length := eL
    have hi2 : i < T.length := by omega
    have ef : ((T.map Dat.bl).length : Int).fdiv (1 + (i : Int)) = ((T.length / (i + 1) : Nat) : Int) := by
      rw [eL, show (1 + (i : Int)) = ((i + 1 : Nat) : Int) by omega]
      exact (Int.ofNat_fdiv _ _).symm
    have hq := Nat.div_le_self T.length (i + 1)
    have hcut : BV.cut (T.map Dat.bl) none (some (1 + (i : Int))) = (T.take (i + 1)).map Dat.bl := by
      rw [cut_to _ (by omega), show (1 + (i : Int)).toNat = i + 1 by omega, List.map_take]
    have hnext : isPer T (i + 1) = false → ∃ s1, ([.d (.lst (T.map Dat.bl)), .d (.int (1 + (i : Int)))] : LS) = [.d (.lst (T.map Dat.bl)), s1] ∧ ∀ d, 0 < d → d ≤ i + 1 → isPer T d = false := fun e => ⟨_, rfl, fun d h1 h2 => by
      by_cases h3 : d = i + 1
      · rw [h3]; exact e
      · exact hd d h1 (by omega)⟩
    unfold blsD
    walk_at "w"
    rw [ef, eL]
    refine BV.c_dec (fun h1 => ?_) fun h1 => ?_
    · walk_at "w"
      · rw [ef]
        exact Int.le_trans (by decide) (Int.natCast_nonneg _)
      · rw [ef]
        exact Int.lt_of_le_of_lt (Int.ofNat_le.mpr hq) (by omega)
      · rw [ef, hcut, List.length_map, List.length_take, Int.toNat_natCast, Nat.min_eq_left (by omega), Nat.mul_comm]
        have := Nat.div_mul_le_self T.length (i + 1)
        omega
      · rw [ef, hcut, Int.toNat_natCast, flat_map]
        refine o2_eqD (shp_bls T) (shp_bls _) ?_
        rw [deq_bls]
        have hm : T.length % (i + 1) = 0 := by
          have := Nat.div_add_mod T.length (i + 1)
          have h2 : (i + 1) * (T.length / (i + 1)) = T.length := by
            rw [Nat.mul_comm]
            have h3 : ((T.length / (i + 1) * (i + 1) : Nat) : Int) = (T.length : Int) := by
              rw [← h1]
              push_cast
              rw [Int.add_comm 1 (i : Int)]
            exact_mod_cast h3
          omega
        walk_at "w"
        refine BV.c_dec (fun h2 => ?_) fun h2 => ?_
        · walk_at "w"
          have hp : isPer T (i + 1) = true := by
            unfold isPer
            rw [Bool.and_eq_true]
            exact ⟨decide_eq_true hm, decide_eq_true h2⟩
          have e : lp T = i + 1 := by
            obtain ⟨a, b, c⟩ := lp_spec h0
            rcases Nat.lt_trichotomy (lp T) (i + 1) with z | z | z
            · have h3 := hd (lp T) a (by omega)
              rw [(per_iff a).mpr b] at h3
              cases h3
            · exact z
            · exact absurd ((per_iff (by omega)).mp hp) (c _ (by omega) z)
          have e2 : (1 + (i : Int)) = ((lp T : Nat) : Int) := by rw [e]; omega
          rw [e2]
          exact hR
        · walk_at "w"
          refine hnext ?_
          unfold isPer
          rw [Bool.and_eq_false_iff]
          exact .inr (decide_eq_false h2)
    · walk_at "w"
      refine hnext ?_
      unfold isPer
      rw [Bool.and_eq_false_iff]
      left
      refine decide_eq_false fun z => h1 ?_
      have := Nat.div_add_mod T.length (i + 1)
      rw [z, Nat.add_zero, Nat.mul_comm] at this
      have h3 : ((T.length / (i + 1) * (i + 1) : Nat) : Int) = (T.length : Int) := by rw [this]
      push_cast at h3
      rw [Int.add_comm 1 (i : Int)]
      exact_mod_cast h3
  · obtain ⟨s1, rfl, hd⟩ := hw
    rw [rngI_len, eL] at hd
    have e : lp T = T.length := by
      obtain ⟨a, b, _⟩ := lp_spec h0
      have h3 := hd (lp T) a (by have := lp_le h0; omega)
      rw [(per_iff a).mpr b] at h3
      cases h3
    unfold blsD
    walk_at "w"
    rw [eL, ← e]
    exact hR

end

section
variable {P : Program} {wd : World} {K : PySem.W.Frag} {mg : Str → Option Value} {base : Heap} {a : Ad}
theorem at_bl {T : List Bool} {k : Nat} (h : k < T.length) : atI (T.map Dat.bl) (k : Int) = some (.bl (T.getD k false)) := by
  have e : T[k]? = some (T.getD k false) := by rw [List.getD_eq_getElem?_getD, List.getElem?_eq_getElem h]; rfl
  exact at_map e
theorem map0 (l : List Nat) : l.map (fun n : Nat => Dat.int (0 + (n : Int))) = l.map natD := List.map_congr_left fun n _ => by rw [Int.zero_add]
theorem back_step {T : List Bool} {s m : Nat} (h : 0 < m) (e : T.getD (m - 1) false = T.getD (m - 1 + s) false) : back T s m = back T s (m - 1) := by
  obtain ⟨k, rfl⟩ : ∃ k, m = k + 1 := ⟨m - 1, by omega⟩
  rw [Nat.add_sub_cancel] at e ⊢
  show (if T.getD k false = T.getD (k + s) false then back T s k else k + 1) = _
  rw [if_pos e]
theorem back_end {T : List Bool} {s m : Nat} (h : ¬ (0 < m ∧ T.getD (m - 1) false = T.getD (m - 1 + s) false)) : back T s m = m := by
  cases m with
  | zero => rfl
  | succ k =>
    rw [Nat.add_sub_cancel] at h
    show (if T.getD k false = T.getD (k + s) false then back T s k else k + 1) = _
    rw [if_neg fun e => h ⟨by omega, e⟩]
def S_reduced : List Dat → (Dat → Prop) → Prop := fun ds R => ∃ (T : List Bool) (i : Nat), ds = [blsD T, natD i] ∧ i < T.length ∧ T.length ≤ 5000 ∧ R (formD (redu T i))
theorem ok_reduced (T : Tx P K mg a) : FnOk P wd K mg base CX0 2 a.f_reduced a.d_reduced ["told", "index"] (spF K S_reduced) :=
  okF T.F_reduced sc_reduced (fun ds R h => by obtain ⟨T, i, rfl, hi, hT, hR⟩ := h; rfl) fun cdv A outer s H E hr => by
  refine ⟨_, (pss_cons (ps_set (i := 2) sc_reduced.nd rfl (Or.inl rfl) (pe_call (ok_least_period T) (hr.mono (by decide)) (by rfl) T.g_least_period T.k_least_period T.b_least_period .nil pass0 (pa_cons (pe_slice sl_list (pv 0) (po_some (pv 1)) po_none) pa_nil)))
 (pss_cons (ps_set (i := 3) sc_reduced.nd rfl (Or.inr rfl) (pe_slice sl_list (pv 0) po_none (po_some (pe_op op_add (pv 1) (pv 2)))))
 (pss_cons (ps_while PassesOwn.never (PW.pt (pw_and (pt_cmpR op_gt (pv 1) pe_int (nomark _)) (pw_and1 (pt_cmpR op_eq (pe_ix (kIxL K rfl) (pv 3) (pe_op op_sub (pv 1) pe_int) (fun _ _ => rfl)) (pe_ix (kIxL K rfl) (pv 3) (pe_op op_add (pe_op op_sub (pv 1) pe_int) (pv 2)) (fun _ _ => rfl)) (nomark _)))))
  (pss_one (ps_set (i := 1) sc_reduced.nd rfl (Or.inr rfl) (pe_op op_sub (pv 1) pe_int))))
 (pss_cons (ps_set (i := 4) sc_reduced.nd rfl (Or.inl rfl) (pe_callTy (kTupOf K rfl) (by rfl) T.n_tuple (by decide +kernel) (pa_cons (pe_lc (own := [("number", 5)]) rfl sc_reduced.nd (pi_range1 rfl T.n_range (pa_cons (pv 1) pa_nil)) (blkOk_by (own := [("number", 5)]) (N := N_reduced) (sc := defScope s_reduced) (by decide +kernel)) (fun _ _ _ _ _ => (pg_name (i := 5) sc_reduced.nd rfl (Or.inl rfl))) (fun _ _ _ _ _ => (pts_one (pt_val (pe_ix (kIxL K rfl) (pv 3) (pv 5) (fun _ _ => rfl))))) (fun _ _ _ _ _ => (pv 5))) pa_nil)))
 (pss_one (ps_ret (pe_tup (pa_cons (pv 1) (pa_cons (pv 2) (pa_cons (pv 4) (pa_cons (pe_callTy (kTupOf K rfl) (by rfl) T.n_tuple (by decide +kernel) (pa_cons (pe_lc (own := [("number", 5)]) rfl sc_reduced.nd (pi_range1 rfl T.n_range (pa_cons (pv 2) pa_nil)) (blkOk_by (own := [("number", 5)]) (N := N_reduced) (sc := defScope s_reduced) (by decide +kernel)) (fun _ _ _ _ _ => (pg_name (i := 5) sc_reduced.nd rfl (Or.inl rfl))) (fun _ _ _ _ _ => (pts_one (pt_val (pe_ix (kIxL K rfl) (pv 3) (pe_op op_add (pv 1) (pv 5)) (fun _ _ => rfl))))) (fun _ _ _ _ _ => (pv 5))) pa_nil)) pa_nil))))))))))), fun ds R h => ?_⟩
  obtain ⟨T, i, rfl, hi, hT, hR⟩ := h
  walk_at "start"
  have eL : (T.map Dat.bl).length = T.length := List.length_map _
  have hdl : (T.drop i).length = T.length - i := List.length_drop ..
  have hdr : BV.cut (T.map Dat.bl) (some (i : Int)) none = (T.drop i).map Dat.bl := by
    rw [cut_from _ (by omega), Int.toNat_natCast, List.map_drop]
  unfold blsD
  walk_at "w"
  rw [hdr]
  refine ⟨T.drop i, rfl, by omega, by omega, ?_⟩
  have hs0 := lp_spec (row := T.drop i) (by omega)
  have hs1 := lp_le (row := T.drop i) (by omega)
  unfold redu at hR
  generalize lp (T.drop i) = s at hs0 hs1 hR
  have hs2 := hs0.1
  have hto : BV.cut (T.map Dat.bl) none (some ((i : Int) + (s : Int))) = (T.take (i + s)).map Dat.bl := by
    rw [cut_to _ (by omega), show ((i : Int) + (s : Int)).toNat = i + s by omega, List.map_take]
  have hrl : (T.take (i + s)).length = i + s := by rw [List.length_take]; omega
  have hrow : ∀ k, k < i + s → atI ((T.take (i + s)).map Dat.bl) (k : Int) = some (.bl (T.getD k false)) := fun k hk => by
    rw [at_bl (by omega), take_getD hk]
  walk_at "w"
  rw [hto]
  have hbl := back_le T s i
  refine run_cut (fun ρ' => ρ' = [.d (.lst (T.map Dat.bl)), .d (natD (back T s i)), .d (natD s), .d (.lst ((T.take (i + s)).map Dat.bl)), .no, .no]) ?_ ?_
  · refine run_while (fun m ρ' => ρ' = [.d (.lst (T.map Dat.bl)), .d (natD m), .d (natD s), .d (.lst ((T.take (i + s)).map Dat.bl)), .no, .no] ∧ m ≤ i ∧ back T s m = back T s i) i ⟨rfl, Nat.le_refl _, rfl⟩ fun m ρ' hw => ?_
    obtain ⟨rfl, hm, hb⟩ := hw
    walk_at "w"
    refine BV.c_dec (fun h0 => ?_) fun h0 => ?_
    · have h0 : 0 < m := by omega
      have a1 : (m : Int) - 1 = ((m - 1 : Nat) : Int) := by omega
      have a2 : ((m - 1 : Nat) : Int) + (s : Int) = ((m - 1 + s : Nat) : Int) := by omega
      walk_at "w"
      rw [a1]
      refine o2_ixL (hrow (m - 1) (by omega)) ?_
      walk_at "w"
      rw [a1, a2]
      refine o2_ixL (hrow (m - 1 + s) (by omega)) ?_
      walk_at "w"
      refine BV.c_dec (fun h1 => ?_) fun h1 => ?_
      · walk_at "w"
        rw [a1]
        exact ⟨m - 1, by omega, rfl, by omega, by rw [← hb, back_step h0 h1]⟩
      · rw [← hb, back_end (s := s) (T := T) (m := m) fun z => h1 z.2]
        walk_at "w"
    · rw [← hb, back_end (s := s) (T := T) (m := m) fun z => h0 (by omega)]
      walk_at "w"
      rfl
  rintro ρ' rfl
  generalize back T s i = j at hbl hR
  walk_at "w"
  refine g_lcSel (fun n : Nat => Dat.int (0 + (n : Int))) (fun n => T.getD n false) (np1 (by rfl) fun _ => rfl) ?_
  walk_at "w"
  refine ⟨List.range j, by unfold rngI; rw [Int.toNat_natCast], by rw [List.length_range]; omega, fun n hn => ?_, ?_⟩
  · rw [List.mem_range] at hn
    have a1 : (0 : Int) + (n : Int) = (n : Int) := Int.zero_add _
    dsimp only [wipeS, List.set]
    walk_at "w"
    rw [a1]
    refine o2_ixL (hrow n (by omega)) ?_
    walk_at "w"
    refine ⟨rfl, fun _ => ?_⟩
    walk_at "w"
    rfl
  rw [map0]
  walk_at "w"
  refine g_lcSel (fun n : Nat => Dat.int (0 + (n : Int))) (fun n => T.getD (j + n) false) (np1 (by rfl) fun _ => rfl) ?_
  walk_at "w"
  refine ⟨List.range s, by unfold rngI; rw [Int.toNat_natCast], by rw [List.length_range]; omega, fun n hn => ?_, ?_⟩
  · rw [List.mem_range] at hn
    have a1 : (0 : Int) + (n : Int) = (n : Int) := Int.zero_add _
    have a2 : (j : Int) + (n : Int) = ((j + n : Nat) : Int) := by omega
    dsimp only [wipeS, List.set]
    walk_at "w"
    rw [a1, a2]
    refine o2_ixL (hrow (j + n) (by omega)) ?_
    walk_at "w"
    refine ⟨rfl, fun _ => ?_⟩
    walk_at "w"
    rfl
  rw [map0]
  walk_at "w"
  exact hR

end

section
variable {P : Program} {wd : World} {K : PySem.W.Frag} {mg : Str → Option Value} {base : Heap} {a : Ad}
theorem fmod_nat (k i p : Nat) (h : i ≤ k) : ((k : Int) - (i : Int)).fmod (p : Int) = (((k - i) % p : Nat) : Int) := by
  rw [show (k : Int) - (i : Int) = ((k - i : Nat) : Int) by omega, Int.fmod_eq_emod_of_nonneg _ (Int.natCast_nonneg _)]
  exact (Int.natCast_emod _ _).symm
def S_inside : List Dat → (Dat → Prop) → Prop := fun ds R => ∃ (f : Form) (k : Nat), ds = [formD f, natD k] ∧ 0 < f.2.1 ∧ R (.bl (inside f k))
theorem ok_is_member (T : Tx P K mg a) : FnOk P wd K mg base CX0 1 a.f_is_member a.d_is_member ["form", "number"] (spF K S_inside) :=
  okF T.F_is_member sc_is_member (fun ds R h => by obtain ⟨f, k, rfl, hp, hR⟩ := h; rfl) fun cdv A outer s H E hr => by
  refine ⟨_, (pss_cons (ps_asg (pv 0) (pg_tup rfl (pgs_cons (pg_name (i := 2) sc_is_member.nd rfl (Or.inl rfl)) (pgs_cons (pg_name (i := 3) sc_is_member.nd rfl (Or.inl rfl)) (pgs_cons (pg_name (i := 4) sc_is_member.nd rfl (Or.inl rfl)) (pgs_cons (pg_name (i := 5) sc_is_member.nd rfl (Or.inl rfl)) pgs_nil))))))
 (pss_cons (ps_if (pt_cmpR op_lt (pv 1) (pv 2) (nomark _))
  (pss_one (ps_ret (pe_cmpR op_in_seq (pv 1) (pv 4) (by rfl))))
  pss_nil)
 (pss_one (ps_ret (pe_cmpR op_in_seq (pe_op op_modN (pe_callTy call_int_ (by rfl) T.n_int (by decide +kernel) (pa_cons (pe_op op_sub (pv 1) (pv 2)) pa_nil)) (pv 3)) (pv 5) (by rfl)))))), fun ds R h => ?_⟩
  obtain ⟨f, k, rfl, hp, hR⟩ := h
  walk_at "start"
  obtain ⟨i, p, a1, b1⟩ := f
  unfold formD natsD
  unfold inside at hR
  dsimp only at hp hR ⊢
  walk_at "w"
  refine BV.c_dec (fun h => ?_) fun h => ?_
  · rw [if_pos (by omega)] at hR
    walk_at "w"
    exact hR
  · rw [if_neg (by omega)] at hR
    walk_at "w"
    rw [fmod_nat k i p (by omega)]
    refine o2_inN ?_
    walk_at "w"
    exact hR
theorem ok__law_inside (T : Tx P K mg a) : FnOk P wd K mg base CX0 1 a.f__law_inside a.d__law_inside ["form", "number"] (spF K S_inside) :=
  okF T.F__law_inside sc__law_inside (fun ds R h => by obtain ⟨f, k, rfl, hp, hR⟩ := h; rfl) fun cdv A outer s H E hr => by
  refine ⟨_, (pss_cons (ps_asg (pv 0) (pg_tup rfl (pgs_cons (pg_name (i := 2) sc__law_inside.nd rfl (Or.inl rfl)) (pgs_cons (pg_name (i := 3) sc__law_inside.nd rfl (Or.inl rfl)) (pgs_cons (pg_name (i := 4) sc__law_inside.nd rfl (Or.inl rfl)) (pgs_cons (pg_name (i := 5) sc__law_inside.nd rfl (Or.inl rfl)) pgs_nil))))))
 (pss_one (ps_ret (pe_ifExp (pt_cmpR op_lt (pv 1) (pv 2) (nomark _)) (pe_cmpR op_in_seq (pv 1) (pv 4) (by rfl)) (pe_cmpR op_in_seq (pe_op op_modN (pe_callTy call_int_ (by rfl) T.n_int (by decide +kernel) (pa_cons (pe_op op_sub (pv 1) (pv 2)) pa_nil)) (pv 3)) (pv 5) (by rfl)))))), fun ds R h => ?_⟩
  obtain ⟨f, k, rfl, hp, hR⟩ := h
  walk_at "start"
  obtain ⟨i, p, a1, b1⟩ := f
  unfold formD natsD
  unfold inside at hR
  dsimp only at hp hR ⊢
  walk_at "w"
  refine BV.c_dec (fun h => ?_) fun h => ?_
  · rw [if_pos (by omega)] at hR
    walk_at "w"
    exact hR
  · rw [if_neg (by omega)] at hR
    walk_at "w"
    rw [fmod_nat k i p (by omega)]
    refine o2_inN ?_
    walk_at "w"
    exact hR
/-- what a set may be made of -/
structure FOk (f : Form) : Prop where
  h1 : f.1 ≤ 1000
  h2 : 0 < f.2.1
  h3 : f.2.1 ≤ 1000
  h4 : Asc f.2.2.1 f.1
  h5 : Asc f.2.2.2 f.2.1
theorem filter_asc (p : Nat → Bool) (n : Nat) : Asc ((List.range n).filter p) n :=
  ⟨List.Pairwise.filter p List.pairwise_lt_range, fun m hm => List.mem_range.mp (List.mem_filter.mp hm).1⟩
theorem redu_ok {T : List Bool} {i p : Nat} (hT : T.length = i + p) (h0 : 0 < p) (hi : i ≤ 1000) (hp : p ≤ 1000) : FOk (redu T i) := by
  obtain ⟨h1, h2, h3⟩ := redu_shape (T := T) (i := i) (by omega)
  exact ⟨by omega, h2, by omega, filter_asc _ _, filter_asc _ _⟩
theorem exp_ok {f : Form} (h : FOk f) : FOk (redu (expand f) f.1) := redu_ok (expand_len f) h.h2 h.h1 h.h3
def S_kept : List Dat → (Dat → Prop) → Prop := fun ds R => ∃ f : Form, ds = [formD f] ∧ FOk f ∧ R (formD (redu (expand f) f.1))
def S_init : List Dat → (List (Str × Dat) → Prop) → Prop := fun ds R => ∃ (f : Form) (x y : Dat), ds = [natD f.1, natD f.2.1, x, y] ∧ SeqN x f.2.2.1 ∧ SeqN y f.2.2.2 ∧ FOk f ∧ R (nsF (redu (expand f) f.1))
theorem SeqN.listed {x : Dat} {l : List Nat} (h : SeqN x l) : (∃ xs, x = .tup xs) ∨ ∃ xs, x = .lst xs := by
  rcases h with rfl | rfl
  · exact .inl ⟨_, rfl⟩
  · exact .inr ⟨_, rfl⟩
theorem oc_lenN {K : KB} {w w1 : Bool} {ρ : LS} {R : Dat → Prop} {x : Dat} {l : List Nat} (h : SeqN x l) (k : R (natD l.length)) : OpC K w1 w ρ (BV.rLen K) [x] R := by
  rcases h with rfl | rfl
  · exact oc_len_tup (by rw [List.length_map]; exact k)
  · exact oc_len_lst (by rw [List.length_map]; exact k)
theorem ok_NumberSetu_initu (T : Tx P K mg a) : FnOk P wd K mg base CX0 3 a.f_NumberSetu_initu a.d_NumberSetu_initu ["self", "since", "period", "firsts", "later"] (spI K a.C_NumberSet S_init) :=
  okI T.F_NumberSetu_initu sc_NumberSetu_initu (fun ds R h => by obtain ⟨f, x, y, rfl, hx, hy, ok, hR⟩ := h; rfl) fun cdv A outer s H E hr => by
  refine ⟨_, (pss_cons (ps_expr (pe_call (ok_check_number T) (hr.mono (by decide)) (by rfl) T.g_check_number T.k_check_number T.b_check_number .nil pass0 (pa_cons (pv 1) (pa_cons pe_int (pa_cons (pe_glob (v := .int 1000) rfl T.c_MOST_INDEX ⟨_, rfl⟩) pa_nil)))))
 (pss_cons (ps_expr (pe_call (ok_check_number T) (hr.mono (by decide)) (by rfl) T.g_check_number T.k_check_number T.b_check_number .nil pass0 (pa_cons (pv 2) (pa_cons pe_int (pa_cons (pe_glob (v := .int 1000) rfl T.c_MOST_INDEX ⟨_, rfl⟩) pa_nil)))))
 (pss_cons (ps_if (PW.pt (pw_or (pt_not (pt_val (pe_call (ok_is_listed T) (hr.mono (by decide)) (by rfl) T.g_is_listed T.k_is_listed T.b_is_listed .nil pass0 (pa_cons (pv 3) pa_nil)))) (pw_or1 (pt_not (pt_val (pe_call (ok_is_listed T) (hr.mono (by decide)) (by rfl) T.g_is_listed T.k_is_listed T.b_is_listed .nil pass0 (pa_cons (pv 4) pa_nil)))))))
  (pss_one (ps_never))
  pss_nil)
 (pss_cons (ps_set (i := 5) sc_NumberSetu_initu.nd rfl (Or.inr rfl) (pe_tup (pa_cons (pv 1) (pa_cons (pv 2) (pa_cons (pe_call (ok_checked_members T) (hr.mono (by decide)) (by rfl) T.g_checked_members T.k_checked_members T.b_checked_members .nil pass0 (pa_cons (pv 3) (pa_cons (pv 1) (pa_cons pe_int pa_nil)))) (pa_cons (pe_call (ok_checked_members T) (hr.mono (by decide)) (by rfl) T.g_checked_members T.k_checked_members T.b_checked_members .nil pass0 (pa_cons (pv 4) (pa_cons (pv 2) (pa_cons (pe_callB (kLen K rfl) (by rfl) T.n_len (by decide +kernel) (pa_cons (pv 3) pa_nil)) pa_nil)))) pa_nil))))))
 (pss_cons (ps_set (i := 6) sc_NumberSetu_initu.nd rfl (Or.inl rfl) (pe_call (ok_reduced T) (hr.mono (by decide)) (by rfl) T.g_reduced T.k_reduced T.b_reduced .nil pass0 (pa_cons (pe_lc (own := [("number", 7)]) rfl sc_NumberSetu_initu.nd (pi_range1 rfl T.n_range (pa_cons (pe_op op_add (pv 1) (pv 2)) pa_nil)) (blkOk_by (own := [("number", 7)]) (N := N_NumberSetu_initu) (sc := defScope s_NumberSetu_initu) (by decide +kernel)) (fun _ _ _ _ _ => (pg_name (i := 7) sc_NumberSetu_initu.nd rfl (Or.inl rfl))) (fun _ _ _ _ _ => pts_nil) (fun _ _ _ _ _ => (pe_call (ok_is_member T) (hr.mono (by decide)) (by rfl) T.g_is_member T.k_is_member T.b_is_member .nil pass0 (pa_cons (pv 5) (pa_cons (pv 7) pa_nil))))) (pa_cons (pv 1) pa_nil))))
 (pss_cons (ps_fld (pv 0) (pe_ix (kIxT K rfl) (pv 6) pe_int (fun _ _ => rfl)) rfl)
 (pss_cons (ps_fld (pv 0) (pe_ix (kIxT K rfl) (pv 6) pe_int (fun _ _ => rfl)) rfl)
 (pss_cons (ps_fld (pv 0) (pe_ix (kIxT K rfl) (pv 6) pe_int (fun _ _ => rfl)) rfl)
 (pss_one (ps_fld (pv 0) (pe_ix (kIxT K rfl) (pv 6) pe_int (fun _ _ => rfl)) rfl)))))))))), fun sA ds R h => ?_⟩
  obtain ⟨f, x, y, rfl, hx, hy, ok, hR⟩ := h
  walk_at "start"
  have cl := T.l_NumberSet; have x1 := T.x_NumberSet_since; have x2 := T.x_NumberSet_period; have x3 := T.x_NumberSet_firsts; have x4 := T.x_NumberSet_later
  have h1 := ok.h1
  have h2 := ok.h2
  have h3 := ok.h3
  have eE := expand_len f
  walk_at "w"
  refine ⟨_, _, _, rfl, by omega, by omega, ?_⟩
  walk_at "w"
  refine ⟨_, _, _, rfl, by omega, by omega, ?_⟩
  walk_at "w"
  refine ⟨x, rfl, .inl ⟨hx.listed, ?_⟩⟩
  walk_at "w"
  refine ⟨y, rfl, .inl ⟨hy.listed, ?_⟩⟩
  walk_at "w"
  refine ⟨x, _, f.1, 0, rfl, hx, ok.h4, by omega, ?_⟩
  walk_at "w"
  refine oc_lenN hx ?_
  walk_at "w"
  refine ⟨y, _, f.2.1, f.2.2.1.length, rfl, hy, ok.h5, by omega, ?_⟩
  walk_at "w"
  refine g_lcB (fun n : Nat => Dat.int (0 + (n : Int))) (fun n => inside f n) (np1 (by rfl) fun _ => rfl) ?_
  walk_at "w"
  refine ⟨List.range (f.1 + f.2.1), by unfold rngI; congr 2, by rw [List.length_range]; omega, fun n hn => ?_, ?_⟩
  · have e0 : (0 : Int) + (n : Int) = (n : Int) := Int.zero_add _
    dsimp only [wipeS, List.set]
    walk_at "w"
    rw [e0]
    exact ⟨f, n, rfl, h2, rfl⟩
  walk_at "w"
  refine ⟨expand f, f.1, rfl, by omega, by omega, ?_⟩
  walk_at "w"
  exact ⟨_, rfl, hR⟩

end

section
variable {P : Program} {wd : World} {K : PySem.W.Frag} {mg : Str → Option Value} {base : Heap} {a : Ad}
/-- the number at the place k is right: between, and greater than the one ahead -/
def goodM (xs : List Dat) (b k : Nat) : Prop := ∃ z : Int, xs[k]? = some (.int z) ∧ 0 ≤ z ∧ z ≤ (b : Int) - 1 ∧ ∀ j, k = j + 1 → ∃ p : Int, xs[j]? = some (.int p) ∧ p < z
def badM (xs : List Dat) (b k : Nat) : Prop := ∃ x, xs[k]? = some x ∧ Num x ∧ (isI x 0 ((b : Int) - 1) = false ∨ ∃ (j : Nat) (p z : Int), k = j + 1 ∧ x = .int z ∧ 0 ≤ z ∧ z ≤ (b : Int) - 1 ∧ xs[j]? = some (.int p) ∧ z ≤ p)
def S_cmX (a : Ad) : List Dat → (Dat → Prop) → RX → Prop := fun ds R RE => ∃ (xs : List Dat) (b s m : Nat), ds = [.tup xs, natD b, natD s] ∧ xs.length ≤ 10 ∧ m ≤ xs.length ∧ (∀ k, k < m → goodM xs b k) ∧
  ((m = xs.length ∧ R (.tup xs)) ∨ (badM xs b m ∧ s + m ≤ 5 ∧ RE a.C_BadMembers [("place", natD (s + m))]))
theorem okx_checked_members (T : Tx P K mg a) : FnOk P wd K mg base (L2.CX P wd) 3 a.f_checked_members a.d_checked_members ["thing", "below", "shift"] (spX K (S_cmX a)) :=
  okX T.F_checked_members sc_checked_members (fun ds R RE h => by obtain ⟨xs, b, s, m, rfl, hl, hm, hg, hR⟩ := h; rfl) fun cdv A outer s H E hr => by
  have tk : Takes (cxOf (L2.CX P wd) P wd K mg base N_checked_members "checked_members" (defScope s_checked_members) a.f_checked_members cdv A outer s H E) (fun cls d _ H => E cls d H) := takes_of rfl rfl rfl rfl
  have po := passes_of (X := cxOf (L2.CX P wd) P wd K mg base N_checked_members "checked_members" (defScope s_checked_members) a.f_checked_members cdv A outer s H E) rfl
  refine ⟨_, (pss_cons (ps_for po rfl (pi_range1 rfl T.n_range (pa_cons (pe_callB (kLen K rfl) (by rfl) T.n_len (by decide +kernel) (pa_cons (pv 0) pa_nil)) pa_nil)) (pg_name (i := 3) sc_checked_members.nd rfl (Or.inl rfl))
  (pss_one (ps_if (PW.pt (pw_or (pt_not (pt_val (pe_call (ok_is_integer T) (hr.mono (by decide)) (by rfl) T.g_is_integer T.k_is_integer T.b_is_integer .nil pass0 (pa_cons (pe_ix (kIxQ K rfl) (pv 0) (pv 3) (fun _ _ => rfl)) (pa_cons pe_int (pa_cons (pe_op op_sub (pv 1) pe_int) pa_nil)))))) (pw_or1 (PW.pt (pw_and (pt_cmpR op_gt (pv 3) pe_int (nomark _)) (pw_and1 (pt_cmpR op_ge (pe_ix (kIxQ K rfl) (pv 0) (pe_op op_sub (pv 3) pe_int) (fun _ _ => rfl)) (pe_ix (kIxQ K rfl) (pv 0) (pv 3) (fun _ _ => rfl)) (nomark _))))))))
  (pss_one (ps_raise rfl tk (pmk_oex T.oe_BadMembers T.oi_BadMembers T.ot_WrongItemu_initu (oke_WrongItemu_initu T) (hr.mono (by decide)) T.b_WrongItemu_initu .nil pass0 (by rfl) T.g_BadMembers (pa_cons (pe_op op_add (pv 2) (pv 3)) pa_nil))))
  pss_nil)))
 (pss_one (ps_ret (pe_callTy (kTupOf K rfl) (by rfl) T.n_tuple (by decide +kernel) (pa_cons (pv 0) pa_nil))))), fun ds R RE h => ?_⟩
  obtain ⟨xs, b, s, m, rfl, hl, hm, hg, hR⟩ := h
  walk_at "start"
  walk_at "w"
  refine ⟨fun i ρ' => ∃ s3, ρ' = [.d (.tup xs), .d (natD b), .d (natD s), s3] ∧ i ≤ m, ⟨_, rfl, Nat.zero_le _⟩, fun i x ρ' hx hw => ?_, fun ρ' hw => ?_⟩
  · obtain ⟨s3, rfl, him⟩ := hw
    obtain ⟨hi, rfl⟩ := rng0_get hx
    rw [Int.toNat_natCast] at hi
    by_cases hlt : i < m
    · obtain ⟨z, hz, z0, z1, hp⟩ := hg i hlt
      walk_at "w"
      refine ⟨_, _, _, rfl, .inl ⟨_, rfl⟩, ?_⟩
      rw [isI_int z0 z1]
      walk_at "w"
      refine BV.c_dec (fun h0 => ?_) fun h0 => ?_
      · obtain ⟨j, rfl⟩ : ∃ j, i = j + 1 := ⟨i - 1, by omega⟩
        obtain ⟨p, hp, hpz⟩ := hp j rfl
        have ej : ((j + 1 : Nat) : Int) - 1 = (j : Int) := by omega
        walk_at "w"
        rw [ej]
        walk_at "w"
        exact ⟨_, rfl, hlt⟩
      · walk_at "w"
        exact ⟨_, rfl, hlt⟩
    · have e : i = m := by omega
      subst e
      rcases hR with ⟨e, _⟩ | ⟨⟨x, hx, hn, hbad⟩, h5, hX⟩
      · omega
      walk_at "w"
      refine ⟨_, _, _, rfl, hn, ?_⟩
      rcases hbad with hb | ⟨j, p, z, e, rfl, z0, z1, hp, hzp⟩
      · rw [hb]
        walk_at "w"
        refine run_raise T.oe_BadMembers T.sx_BadMembers (fun ds fs h f hf => ?_) ?_
        · obtain ⟨y, rfl, rfl, _⟩ := h
          rw [List.mem_singleton] at hf
          subst hf
          exact T.xn_BadMembers_place
        · walk_at "w"
          exact ⟨Nat.le_of_ble_eq_true rfl, [("place", natD (s + i))], ⟨_, rfl, rfl, _, rfl, by omega, by omega⟩, hX⟩
      · rw [isI_int z0 z1]
        subst e
        have ej : ((j + 1 : Nat) : Int) - 1 = (j : Int) := by omega
        walk_at "w"
        rw [ej]
        walk_at "w"
        refine run_raise T.oe_BadMembers T.sx_BadMembers (fun ds fs h f hf => ?_) ?_
        · obtain ⟨y, rfl, rfl, _⟩ := h
          rw [List.mem_singleton] at hf
          subst hf
          exact T.xn_BadMembers_place
        · walk_at "w"
          exact ⟨Nat.le_of_ble_eq_true rfl, [("place", natD (s + (j + 1)))], ⟨_, rfl, rfl, _, rfl, by omega, by omega⟩, hX⟩
  · obtain ⟨s3, rfl, him⟩ := hw
    rw [rngI_len] at him
    rcases hR with ⟨e, hR⟩ | ⟨⟨x, hx, _⟩, _⟩
    · walk_at "w"
      exact hR
    · have hh := List.getElem?_eq_some_iff.mp hx
      obtain ⟨h1, _⟩ := hh
      exact absurd h1 (by have : (xs.length : Int).toNat = xs.length := Int.toNat_natCast _; omega)

end

section
variable {P : Program} {wd : World} {K : PySem.W.Frag} {mg : Str → Option Value} {base : Heap} {a : Ad}
def S_initX (a : Ad) : List Dat → (List (Str × Dat) → Prop) → RX → Prop := fun ds R RE => ∃ (x y u v : Dat), ds = [x, y, u, v] ∧
  ((Num x ∧ isI x 0 1000 = false ∧ RE a.C_BadNumber [("thing", x)]) ∨ ∃ i : Nat, x = natD i ∧ i ≤ 1000 ∧
    ((Num y ∧ isI y 1 1000 = false ∧ RE a.C_BadNumber [("thing", y)]) ∨ ∃ p : Nat, y = natD p ∧ 1 ≤ p ∧ p ≤ 1000 ∧
      (((u = .non ∨ ((∃ us, u = .tup us) ∧ ∃ s, v = .str s)) ∧ RE a.C_BadMembers [("place", .int (-1))]) ∨ ∃ us vs, u = .tup us ∧ v = .tup vs ∧ us.length ≤ 10 ∧ vs.length ≤ 10 ∧
        ((∃ m, m ≤ us.length ∧ (∀ k, k < m → goodM us i k) ∧ badM us i m ∧ m ≤ 5 ∧ RE a.C_BadMembers [("place", natD m)]) ∨
          ((∀ k, k < us.length → goodM us i k) ∧ ∃ m, m ≤ vs.length ∧ (∀ k, k < m → goodM vs p k) ∧ badM vs p m ∧ us.length + m ≤ 5 ∧ RE a.C_BadMembers [("place", natD (us.length + m))])))))
theorem okx_NumberSetu_initu (T : Tx P K mg a) : FnOk P wd K mg base (L2.CX P wd) 4 a.f_NumberSetu_initu a.d_NumberSetu_initu ["self", "since", "period", "firsts", "later"] (spJ K a.C_NumberSet (S_initX a)) :=
  okJ T.F_NumberSetu_initu sc_NumberSetu_initu (fun ds R RE h => by obtain ⟨x, y, u, v, rfl, h⟩ := h; rfl) fun cdv A outer s H E hr => by
  have tk : Takes (cxOf (L2.CX P wd) P wd K mg base N_NumberSetu_initu "NumberSet.__init__" (defScope s_NumberSetu_initu) a.f_NumberSetu_initu cdv A outer s H E) (fun cls d _ H => E cls d H) := takes_of rfl rfl rfl rfl
  have po := passes_of (X := cxOf (L2.CX P wd) P wd K mg base N_NumberSetu_initu "NumberSet.__init__" (defScope s_NumberSetu_initu) a.f_NumberSetu_initu cdv A outer s H E) rfl
  refine ⟨_, (pss_cons (ps_expr (pe_callS (okx_check_number T) (hr.mono (by decide)) (by rfl) T.g_check_number T.k_check_number T.b_check_number (passAt tk) (pa_cons (pv 1) (pa_cons pe_int (pa_cons (pe_glob (v := .int 1000) rfl T.c_MOST_INDEX ⟨_, rfl⟩) pa_nil)))))
 (pss_cons (ps_expr (pe_callS (okx_check_number T) (hr.mono (by decide)) (by rfl) T.g_check_number T.k_check_number T.b_check_number (passAt tk) (pa_cons (pv 2) (pa_cons pe_int (pa_cons (pe_glob (v := .int 1000) rfl T.c_MOST_INDEX ⟨_, rfl⟩) pa_nil)))))
 (pss_cons (ps_if (PW.pt (pw_or (pt_not (pt_val (pe_call (ok_is_listed T) (hr.mono (by decide)) (by rfl) T.g_is_listed T.k_is_listed T.b_is_listed .nil pass0 (pa_cons (pv 3) pa_nil)))) (pw_or1 (pt_not (pt_val (pe_call (ok_is_listed T) (hr.mono (by decide)) (by rfl) T.g_is_listed T.k_is_listed T.b_is_listed .nil pass0 (pa_cons (pv 4) pa_nil)))))))
  (pss_one (ps_raise rfl tk (pmk_oex T.oe_BadMembers T.oi_BadMembers T.ot_WrongItemu_initu (oke_WrongItemu_initu T) (hr.mono (by decide)) T.b_WrongItemu_initu .nil pass0 (by rfl) T.g_BadMembers (pa_cons (pe_un un_neg pe_int) pa_nil))))
  pss_nil)
 (pss_cons (ps_set (i := 5) sc_NumberSetu_initu.nd rfl (Or.inr rfl) (pe_tup (pa_cons (pv 1) (pa_cons (pv 2) (pa_cons (pe_callS (okx_checked_members T) (hr.mono (by decide)) (by rfl) T.g_checked_members T.k_checked_members T.b_checked_members (passAt tk) (pa_cons (pv 3) (pa_cons (pv 1) (pa_cons pe_int pa_nil)))) (pa_cons (pe_callS (okx_checked_members T) (hr.mono (by decide)) (by rfl) T.g_checked_members T.k_checked_members T.b_checked_members (passAt tk) (pa_cons (pv 4) (pa_cons (pv 2) (pa_cons (pe_callB (kLen K rfl) (by rfl) T.n_len (by decide +kernel) (pa_cons (pv 3) pa_nil)) pa_nil)))) pa_nil))))))
 (pss_cons (ps_set (i := 6) sc_NumberSetu_initu.nd rfl (Or.inl rfl) (pe_call (ok_reduced T) (hr.mono (by decide)) (by rfl) T.g_reduced T.k_reduced T.b_reduced .nil pass0 (pa_cons (pe_lc (own := [("number", 7)]) rfl sc_NumberSetu_initu.nd (pi_range1 rfl T.n_range (pa_cons (pe_op op_add (pv 1) (pv 2)) pa_nil)) (blkOk_by (own := [("number", 7)]) (N := N_NumberSetu_initu) (sc := defScope s_NumberSetu_initu) (by decide +kernel)) (fun _ _ _ _ _ => (pg_name (i := 7) sc_NumberSetu_initu.nd rfl (Or.inl rfl))) (fun _ _ _ _ _ => pts_nil) (fun _ _ _ _ _ => (pe_call (ok_is_member T) (hr.mono (by decide)) (by rfl) T.g_is_member T.k_is_member T.b_is_member .nil pass0 (pa_cons (pv 5) (pa_cons (pv 7) pa_nil))))) (pa_cons (pv 1) pa_nil))))
 (pss_cons (ps_fld (pv 0) (pe_ix (kIxT K rfl) (pv 6) pe_int (fun _ _ => rfl)) rfl)
 (pss_cons (ps_fld (pv 0) (pe_ix (kIxT K rfl) (pv 6) pe_int (fun _ _ => rfl)) rfl)
 (pss_cons (ps_fld (pv 0) (pe_ix (kIxT K rfl) (pv 6) pe_int (fun _ _ => rfl)) rfl)
 (pss_one (ps_fld (pv 0) (pe_ix (kIxT K rfl) (pv 6) pe_int (fun _ _ => rfl)) rfl)))))))))), fun sA ds R RE h => ?_⟩
  obtain ⟨x, y, u, v, rfl, h⟩ := h
  walk_at "start"
  have cl := T.l_NumberSet; have x1 := T.x_NumberSet_since; have x2 := T.x_NumberSet_period; have x3 := T.x_NumberSet_firsts; have x4 := T.x_NumberSet_later
  rcases h with ⟨hx, hb, hX⟩ | ⟨i, rfl, hi, h⟩
  · walk_at "w"
    exact ⟨RE, ⟨_, _, _, rfl, hx, fun h => absurd (hb.symm.trans h) Bool.false_ne_true, fun _ => hX⟩, fun C fs h => h⟩
  walk_at "w"
  refine ⟨RE, ⟨_, _, _, rfl, .inl ⟨_, rfl⟩, fun _ => ?_, fun h => absurd (h.symm.trans (isI_nat (by omega) (by omega))) Bool.false_ne_true⟩, fun C fs h => h⟩
  rcases h with ⟨hy, hb, hX⟩ | ⟨p, rfl, hp, hp2, h⟩
  · walk_at "w"
    exact ⟨RE, ⟨_, _, _, rfl, hy, fun h => absurd (hb.symm.trans h) Bool.false_ne_true, fun _ => hX⟩, fun C fs h => h⟩
  walk_at "w"
  refine ⟨RE, ⟨_, _, _, rfl, .inl ⟨_, rfl⟩, fun _ => ?_, fun h => absurd (h.symm.trans (isI_nat (by omega) (by omega))) Bool.false_ne_true⟩, fun C fs h => h⟩
  rcases h with ⟨hu, hX⟩ | ⟨us, vs, rfl, rfl, hul, hvl, h⟩
  · rcases hu with rfl | ⟨⟨us, rfl⟩, s, rfl⟩
    · walk_at "w"
      refine ⟨_, rfl, .inr ⟨.inl rfl, ?_⟩⟩
      walk_at "w"
      refine run_raise T.oe_BadMembers T.sx_BadMembers (fun ds fs h f hf => ?_) ?_
      · obtain ⟨y, rfl, rfl, _⟩ := h
        rw [List.mem_singleton] at hf
        subst hf
        exact T.xn_BadMembers_place
      · walk_at "w"
        exact ⟨Nat.le_of_ble_eq_true rfl, [("place", .int (-1))], ⟨_, rfl, rfl, _, rfl, by omega, by omega⟩, hX⟩
    · walk_at "w"
      refine ⟨_, rfl, .inl ⟨.inl ⟨_, rfl⟩, ?_⟩⟩
      walk_at "w"
      refine ⟨_, rfl, .inr ⟨.inr ⟨_, rfl⟩, ?_⟩⟩
      walk_at "w"
      refine run_raise T.oe_BadMembers T.sx_BadMembers (fun ds fs h f hf => ?_) ?_
      · obtain ⟨y, rfl, rfl, _⟩ := h
        rw [List.mem_singleton] at hf
        subst hf
        exact T.xn_BadMembers_place
      · walk_at "w"
        exact ⟨Nat.le_of_ble_eq_true rfl, [("place", .int (-1))], ⟨_, rfl, rfl, _, rfl, by omega, by omega⟩, hX⟩
  walk_at "w"
  refine ⟨_, rfl, .inl ⟨.inl ⟨_, rfl⟩, ?_⟩⟩
  walk_at "w"
  refine ⟨_, rfl, .inl ⟨.inl ⟨_, rfl⟩, ?_⟩⟩
  walk_at "w"
  rcases h with ⟨m, hm, hg, hb, h5, hX⟩ | ⟨hg0, m, hm, hg, hb, h5, hX⟩
  · exact ⟨RE, ⟨us, i, 0, m, rfl, hul, hm, hg, .inr ⟨hb, by omega, by rw [Nat.zero_add]; exact hX⟩⟩, fun C fs h => h⟩
  refine ⟨RE, ⟨us, i, 0, us.length, rfl, hul, Nat.le_refl _, hg0, .inl ⟨rfl, ?_⟩⟩, fun C fs h => h⟩
  walk_at "w"
  exact ⟨RE, ⟨vs, p, us.length, m, rfl, hvl, hm, hg, .inr ⟨hb, by omega, hX⟩⟩, fun C fs h => h⟩
def S_badN (a : Ad) (lo hi : Int) : List Dat → (Dat → Prop) → RX → Prop := fun ds R RE => ∃ (f : Form) (x : Dat), ds = [.obj a.C_NumberSet (nsF f), x] ∧ Num x ∧ isI x lo hi = false ∧ RE a.C_BadNumber [("thing", x)]
theorem okx_NumberSetu_containsu (T : Tx P K mg a) : FnOk P wd K mg base (L2.CX P wd) 4 a.f_NumberSetu_containsu a.d_NumberSetu_containsu ["self", "number"] (spX K (S_badN a 0 (10^40))) :=
  okX T.F_NumberSetu_containsu sc_NumberSetu_containsu (fun ds R RE h => by obtain ⟨f, x, rfl, hx, hb, hX⟩ := h; rfl) fun cdv A outer s H E hr => by
  have tk : Takes (cxOf (L2.CX P wd) P wd K mg base N_NumberSetu_containsu "NumberSet.__contains__" (defScope s_NumberSetu_containsu) a.f_NumberSetu_containsu cdv A outer s H E) (fun cls d _ H => E cls d H) := takes_of rfl rfl rfl rfl
  have po := passes_of (X := cxOf (L2.CX P wd) P wd K mg base N_NumberSetu_containsu "NumberSet.__contains__" (defScope s_NumberSetu_containsu) a.f_NumberSetu_containsu cdv A outer s H E) rfl
  refine ⟨_, (pss_cons (ps_expr (pe_callS (okx_check_number T) (hr.mono (by decide)) (by rfl) T.g_check_number T.k_check_number T.b_check_number (passAt tk) (pa_cons (pv 1) (pa_cons pe_int (pa_cons (pe_glob (v := .int 10000000000000000000000000000000000000000) rfl T.c_MOST_MEMBER ⟨_, rfl⟩) pa_nil)))))
 (pss_one (ps_ret (pe_call (ok_is_member T) (hr.mono (by decide)) (by rfl) T.g_is_member T.k_is_member T.b_is_member .nil pass0 (pa_cons (pe_call (ok_form_of T) (hr.mono (by decide)) (by rfl) T.g_form_of T.k_form_of T.b_form_of .nil pass0 (pa_cons (pv 0) pa_nil)) (pa_cons (pv 1) pa_nil)))))), fun ds R RE h => ?_⟩
  obtain ⟨f, x, rfl, hx, hb, hX⟩ := h
  walk_at "start"
  have cl := T.l_NumberSet; have x1 := T.x_NumberSet_since; have x2 := T.x_NumberSet_period; have x3 := T.x_NumberSet_firsts; have x4 := T.x_NumberSet_later
  walk_at "w"
  exact ⟨RE, ⟨_, _, _, rfl, hx, fun h => absurd (hb.symm.trans h) Bool.false_ne_true, fun _ => hX⟩, fun C fs h => h⟩
theorem okx_NumberSet_counted (T : Tx P K mg a) : FnOk P wd K mg base (L2.CX P wd) 4 a.f_NumberSet_counted a.d_NumberSet_counted ["self", "number"] (spX K (S_badN a 0 (10^40))) :=
  okX T.F_NumberSet_counted sc_NumberSet_counted (fun ds R RE h => by obtain ⟨f, x, rfl, hx, hb, hX⟩ := h; rfl) fun cdv A outer s H E hr => by
  have tk : Takes (cxOf (L2.CX P wd) P wd K mg base N_NumberSet_counted "NumberSet.counted" (defScope s_NumberSet_counted) a.f_NumberSet_counted cdv A outer s H E) (fun cls d _ H => E cls d H) := takes_of rfl rfl rfl rfl
  have po := passes_of (X := cxOf (L2.CX P wd) P wd K mg base N_NumberSet_counted "NumberSet.counted" (defScope s_NumberSet_counted) a.f_NumberSet_counted cdv A outer s H E) rfl
  refine ⟨_, (pss_cons (ps_expr (pe_callS (okx_check_number T) (hr.mono (by decide)) (by rfl) T.g_check_number T.k_check_number T.b_check_number (passAt tk) (pa_cons (pv 1) (pa_cons pe_int (pa_cons (pe_glob (v := .int 10000000000000000000000000000000000000000) rfl T.c_MOST_MEMBER ⟨_, rfl⟩) pa_nil)))))
 (pss_cons (ps_if (pt_cmpR op_le (pv 1) (pe_fld (pv 0) rfl) (nomark _))
  (pss_one (ps_ret (pe_callB (kLen K rfl) (by rfl) T.n_len (by decide +kernel) (pa_cons (pe_lc (own := [("one", 5)]) rfl sc_NumberSet_counted.nd (pi_tup (pe_fld (pv 0) rfl)) (blkOk_by (own := [("one", 5)]) (N := N_NumberSet_counted) (sc := defScope s_NumberSet_counted) (by decide +kernel)) (fun _ _ _ _ _ => (pg_name (i := 5) sc_NumberSet_counted.nd rfl (Or.inl rfl))) (fun _ _ _ _ _ => (pts_one (pt_cmpR op_lt (pv 5) (pv 1) (nomark _)))) (fun _ _ _ _ _ => (pv 5))) pa_nil))))
  pss_nil)
 (pss_cons (ps_asg (pe_callB call_divmod_ (by rfl) T.n_divmod (by decide +kernel) (pa_cons (pe_op op_sub (pv 1) (pe_fld (pv 0) rfl)) (pa_cons (pe_fld (pv 0) rfl) pa_nil))) (pg_tup rfl (pgs_cons (pg_name (i := 2) sc_NumberSet_counted.nd rfl (Or.inl rfl)) (pgs_cons (pg_name (i := 3) sc_NumberSet_counted.nd rfl (Or.inr rfl)) pgs_nil))))
 (pss_cons (ps_set (i := 4) sc_NumberSet_counted.nd rfl (Or.inl rfl) (pe_callB (kLen K rfl) (by rfl) T.n_len (by decide +kernel) (pa_cons (pe_lc (own := [("one", 5)]) rfl sc_NumberSet_counted.nd (pi_tup (pe_fld (pv 0) rfl)) (blkOk_by (own := [("one", 5)]) (N := N_NumberSet_counted) (sc := defScope s_NumberSet_counted) (by decide +kernel)) (fun _ _ _ _ _ => (pg_name (i := 5) sc_NumberSet_counted.nd rfl (Or.inl rfl))) (fun _ _ _ _ _ => (pts_one (pt_cmpR op_lt (pv 5) (pv 3) (nomark _)))) (fun _ _ _ _ _ => (pv 5))) pa_nil)))
 (pss_one (ps_ret (pe_op op_add (pe_op op_add (pe_callB (kLen K rfl) (by rfl) T.n_len (by decide +kernel) (pa_cons (pe_fld (pv 0) rfl) pa_nil)) (pe_op op_mul (pv 2) (pe_callB (kLen K rfl) (by rfl) T.n_len (by decide +kernel) (pa_cons (pe_fld (pv 0) rfl) pa_nil)))) (pv 4)))))))), fun ds R RE h => ?_⟩
  obtain ⟨f, x, rfl, hx, hb, hX⟩ := h
  walk_at "start"
  have cl := T.l_NumberSet; have x1 := T.x_NumberSet_since; have x2 := T.x_NumberSet_period; have x3 := T.x_NumberSet_firsts; have x4 := T.x_NumberSet_later
  walk_at "w"
  exact ⟨RE, ⟨_, _, _, rfl, hx, fun h => absurd (hb.symm.trans h) Bool.false_ne_true, fun _ => hX⟩, fun C fs h => h⟩
theorem okx_NumberSet_listed (T : Tx P K mg a) : FnOk P wd K mg base (L2.CX P wd) 4 a.f_NumberSet_listed a.d_NumberSet_listed ["self", "many"] (spX K (S_badN a 0 200)) :=
  okX T.F_NumberSet_listed sc_NumberSet_listed (fun ds R RE h => by obtain ⟨f, x, rfl, hx, hb, hX⟩ := h; rfl) fun cdv A outer s H E hr => by
  have tk : Takes (cxOf (L2.CX P wd) P wd K mg base N_NumberSet_listed "NumberSet.listed" (defScope s_NumberSet_listed) a.f_NumberSet_listed cdv A outer s H E) (fun cls d _ H => E cls d H) := takes_of rfl rfl rfl rfl
  have po := passes_of (X := cxOf (L2.CX P wd) P wd K mg base N_NumberSet_listed "NumberSet.listed" (defScope s_NumberSet_listed) a.f_NumberSet_listed cdv A outer s H E) rfl
  refine ⟨_, (pss_cons (ps_expr (pe_callS (okx_check_number T) (hr.mono (by decide)) (by rfl) T.g_check_number T.k_check_number T.b_check_number (passAt tk) (pa_cons (pv 1) (pa_cons pe_int (pa_cons (pe_glob (v := .int 200) rfl T.c_MOST_LISTED ⟨_, rfl⟩) pa_nil)))))
 (pss_cons (ps_set (i := 2) sc_NumberSet_listed.nd rfl (Or.inl rfl) (pe_callTy (kListOf K rfl) (by rfl) T.n_list (by decide +kernel) (pa_cons (pe_slice (kSlA K rfl) (pe_fld (pv 0) rfl) po_none (po_some (pv 1))) pa_nil)))
 (pss_cons (ps_set (i := 3) sc_NumberSet_listed.nd rfl (Or.inr rfl) (pe_fld (pv 0) rfl))
 (pss_cons (ps_while po (PW.pt (pw_and (pt_tr (pe_fld (pv 0) rfl)) (pw_and1 (pt_cmpR op_lt (pe_callB (kLen K rfl) (by rfl) T.n_len (by decide +kernel) (pa_cons (pv 2) pa_nil)) (pv 1) (nomark _)))))
  (pss_cons (ps_set (i := 2) sc_NumberSet_listed.nd rfl (Or.inl rfl) (pe_op op_cat (pv 2) (pe_slice sl_list (pe_lc (own := [("number", 4)]) rfl sc_NumberSet_listed.nd (pi_tup (pe_fld (pv 0) rfl)) (blkOk_by (own := [("number", 4)]) (N := N_NumberSet_listed) (sc := defScope s_NumberSet_listed) (by decide +kernel)) (fun _ _ _ _ _ => (pg_name (i := 4) sc_NumberSet_listed.nd rfl (Or.inl rfl))) (fun _ _ _ _ _ => pts_nil) (fun _ _ _ _ _ => (pe_op op_add (pv 3) (pv 4)))) po_none (po_some (pe_op op_sub (pv 1) (pe_callB (kLen K rfl) (by rfl) T.n_len (by decide +kernel) (pa_cons (pv 2) pa_nil)))))))
 (pss_one (ps_set (i := 3) sc_NumberSet_listed.nd rfl (Or.inr rfl) (pe_op op_add (pv 3) (pe_fld (pv 0) rfl))))))
 (pss_one (ps_ret (pe_callTy (kTupOf K rfl) (by rfl) T.n_tuple (by decide +kernel) (pa_cons (pv 2) pa_nil)))))))), fun ds R RE h => ?_⟩
  obtain ⟨f, x, rfl, hx, hb, hX⟩ := h
  walk_at "start"
  have cl := T.l_NumberSet; have x1 := T.x_NumberSet_since; have x2 := T.x_NumberSet_period; have x3 := T.x_NumberSet_firsts; have x4 := T.x_NumberSet_later
  walk_at "w"
  exact ⟨RE, ⟨_, _, _, rfl, hx, fun h => absurd (hb.symm.trans h) Bool.false_ne_true, fun _ => hX⟩, fun C fs h => h⟩

end

section
variable {P : Program} {wd : World} {K : PySem.W.Frag} {mg : Str → Option Value} {base : Heap} {a : Ad}
def optD : Option Nat → Dat
  | none => .non
  | some n => natD n
def S_least (a : Ad) : List Dat → (Dat → Prop) → Prop := fun ds R => ∃ f : Form, ds = [.obj a.C_NumberSet (nsF f)] ∧ R (optD (leastK f))
theorem ok_NumberSet_least (T : Tx P K mg a) : FnOk P wd K mg base CX0 1 a.f_NumberSet_least a.d_NumberSet_least ["self"] (spF K (S_least a)) :=
  okF T.F_NumberSet_least sc_NumberSet_least (fun ds R h => by obtain ⟨⟨i, p, a1, b1⟩, rfl, hR⟩ := h; rfl) fun cdv A outer s H E hr => by
  refine ⟨_, (pss_cons (ps_if (pt_tr (pe_fld (pv 0) rfl))
  (pss_one (ps_ret (pe_ix (kIxT K rfl) (pe_fld (pv 0) rfl) pe_int (fun _ _ => rfl))))
  pss_nil)
 (pss_one (ps_ret (pe_ifExp (pt_tr (pe_fld (pv 0) rfl)) (pe_op op_add (pe_fld (pv 0) rfl) (pe_ix (kIxT K rfl) (pe_fld (pv 0) rfl) pe_int (fun _ _ => rfl))) pe_non)))), fun ds R h => ?_⟩
  obtain ⟨⟨i, p, a1, b1⟩, rfl, hR⟩ := h
  walk_at "start"
  have cl := T.l_NumberSet; have x1 := T.x_NumberSet_since; have x2 := T.x_NumberSet_period; have x3 := T.x_NumberSet_firsts; have x4 := T.x_NumberSet_later
  unfold nsF natsD
  unfold leastK at hR
  dsimp only at hR ⊢
  cases a1 with
  | cons x r =>
    rw [List.map_cons]
    walk_at "w"
    exact hR
  | nil =>
    cases b1 with
    | cons y r =>
      rw [List.map_nil, List.map_cons]
      have hR : R (.int ((i : Int) + (y : Int))) := by
        have e : ((i + y : Nat) : Int) = (i : Int) + (y : Int) := by omega
        rw [← e]
        exact hR
      walk_at "w"
      exact hR
    | nil =>
      rw [List.map_nil]
      walk_at "w"
      exact hR
def S_lasting (a : Ad) : List Dat → (Dat → Prop) → Prop := fun ds R => ∃ f : Form, ds = [.obj a.C_NumberSet (nsF f)] ∧ R (if f.2.2.2.length = f.2.1 then natD f.1 else .non)
theorem ok_NumberSet_lasting (T : Tx P K mg a) : FnOk P wd K mg base CX0 1 a.f_NumberSet_lasting a.d_NumberSet_lasting ["self"] (spF K (S_lasting a)) :=
  okF T.F_NumberSet_lasting sc_NumberSet_lasting (fun ds R h => by obtain ⟨⟨i, p, a1, b1⟩, rfl, hR⟩ := h; rfl) fun cdv A outer s H E hr => by
  refine ⟨_, (pss_one (ps_ret (pe_ifExp (pt_cmpR op_eq (pe_callB (kLen K rfl) (by rfl) T.n_len (by decide +kernel) (pa_cons (pe_fld (pv 0) rfl) pa_nil)) (pe_fld (pv 0) rfl) (nomark _)) (pe_fld (pv 0) rfl) pe_non))), fun ds R h => ?_⟩
  obtain ⟨⟨i, p, a1, b1⟩, rfl, hR⟩ := h
  walk_at "start"
  have cl := T.l_NumberSet; have x1 := T.x_NumberSet_since; have x2 := T.x_NumberSet_period; have x3 := T.x_NumberSet_firsts; have x4 := T.x_NumberSet_later
  unfold nsF natsD
  dsimp only at hR ⊢
  walk_at "w"
  rw [List.length_map]
  refine BV.c_dec (fun h => ?_) fun h => ?_
  · rw [if_pos (by omega)] at hR
    walk_at "w"
    exact hR
  · rw [if_neg (by omega)] at hR
    walk_at "w"
    exact hR
def S_gone (a : Ad) : List Dat → (Dat → Prop) → Prop := fun ds R => ∃ f : Form, ds = [.obj a.C_NumberSet (nsF f)] ∧ R (if f.2.2.2 = [] then natD f.1 else .non)
theorem ok_NumberSet_gone (T : Tx P K mg a) : FnOk P wd K mg base CX0 1 a.f_NumberSet_gone a.d_NumberSet_gone ["self"] (spF K (S_gone a)) :=
  okF T.F_NumberSet_gone sc_NumberSet_gone (fun ds R h => by obtain ⟨⟨i, p, a1, b1⟩, rfl, hR⟩ := h; rfl) fun cdv A outer s H E hr => by
  refine ⟨_, (pss_one (ps_ret (pe_ifExp (pt_not (pt_tr (pe_fld (pv 0) rfl))) (pe_fld (pv 0) rfl) pe_non))), fun ds R h => ?_⟩
  obtain ⟨⟨i, p, a1, b1⟩, rfl, hR⟩ := h
  walk_at "start"
  have cl := T.l_NumberSet; have x1 := T.x_NumberSet_since; have x2 := T.x_NumberSet_period; have x3 := T.x_NumberSet_firsts; have x4 := T.x_NumberSet_later
  unfold nsF natsD
  dsimp only at hR ⊢
  cases b1 with
  | nil =>
    rw [if_pos rfl] at hR
    rw [List.map_nil]
    walk_at "w"
    exact hR
  | cons y r =>
    rw [if_neg (by intro z; cases z)] at hR
    rw [List.map_cons]
    walk_at "w"
    exact hR
theorem bits_num {n i : Nat} (h : n ≤ 10 ^ 40) : Builtin.Int.intBits ((n : Int) - (i : Int)) ≤ 4000 ∨ n < i := by
  rcases Nat.lt_or_ge n i with z | z
  · exact .inr z
  · left
    have e : (n : Int) - (i : Int) = ((n - i : Nat) : Int) := by omega
    rw [e]
    refine Nat.le_trans (bits_le (a := 140) ?_) (by decide)
    rw [Int.natAbs_natCast]
    exact Nat.lt_of_le_of_lt (Nat.le_trans (Nat.sub_le _ _) h) (by decide)
def S_counted (a : Ad) : List Dat → (Dat → Prop) → Prop := fun ds R => ∃ (f : Form) (n : Nat), ds = [.obj a.C_NumberSet (nsF f), natD n] ∧ FOk f ∧ n ≤ 10 ^ 40 ∧ R (natD (below f n))
theorem ok_NumberSet_counted (T : Tx P K mg a) : FnOk P wd K mg base CX0 3 a.f_NumberSet_counted a.d_NumberSet_counted ["self", "number"] (spF K (S_counted a)) :=
  okF T.F_NumberSet_counted sc_NumberSet_counted (fun ds R h => by obtain ⟨⟨i, p, a1, b1⟩, n, rfl, ok, hn, hR⟩ := h; rfl) fun cdv A outer s H E hr => by
  refine ⟨_, (pss_cons (ps_expr (pe_call (ok_check_number T) (hr.mono (by decide)) (by rfl) T.g_check_number T.k_check_number T.b_check_number .nil pass0 (pa_cons (pv 1) (pa_cons pe_int (pa_cons (pe_glob (v := .int 10000000000000000000000000000000000000000) rfl T.c_MOST_MEMBER ⟨_, rfl⟩) pa_nil)))))
 (pss_cons (ps_if (pt_cmpR op_le (pv 1) (pe_fld (pv 0) rfl) (nomark _))
  (pss_one (ps_ret (pe_callB (kLen K rfl) (by rfl) T.n_len (by decide +kernel) (pa_cons (pe_lc (own := [("one", 5)]) rfl sc_NumberSet_counted.nd (pi_tup (pe_fld (pv 0) rfl)) (blkOk_by (own := [("one", 5)]) (N := N_NumberSet_counted) (sc := defScope s_NumberSet_counted) (by decide +kernel)) (fun _ _ _ _ _ => (pg_name (i := 5) sc_NumberSet_counted.nd rfl (Or.inl rfl))) (fun _ _ _ _ _ => (pts_one (pt_cmpR op_lt (pv 5) (pv 1) (nomark _)))) (fun _ _ _ _ _ => (pv 5))) pa_nil))))
  pss_nil)
 (pss_cons (ps_asg (pe_callB call_divmod_ (by rfl) T.n_divmod (by decide +kernel) (pa_cons (pe_op op_sub (pv 1) (pe_fld (pv 0) rfl)) (pa_cons (pe_fld (pv 0) rfl) pa_nil))) (pg_tup rfl (pgs_cons (pg_name (i := 2) sc_NumberSet_counted.nd rfl (Or.inl rfl)) (pgs_cons (pg_name (i := 3) sc_NumberSet_counted.nd rfl (Or.inr rfl)) pgs_nil))))
 (pss_cons (ps_set (i := 4) sc_NumberSet_counted.nd rfl (Or.inl rfl) (pe_callB (kLen K rfl) (by rfl) T.n_len (by decide +kernel) (pa_cons (pe_lc (own := [("one", 5)]) rfl sc_NumberSet_counted.nd (pi_tup (pe_fld (pv 0) rfl)) (blkOk_by (own := [("one", 5)]) (N := N_NumberSet_counted) (sc := defScope s_NumberSet_counted) (by decide +kernel)) (fun _ _ _ _ _ => (pg_name (i := 5) sc_NumberSet_counted.nd rfl (Or.inl rfl))) (fun _ _ _ _ _ => (pts_one (pt_cmpR op_lt (pv 5) (pv 3) (nomark _)))) (fun _ _ _ _ _ => (pv 5))) pa_nil)))
 (pss_one (ps_ret (pe_op op_add (pe_op op_add (pe_callB (kLen K rfl) (by rfl) T.n_len (by decide +kernel) (pa_cons (pe_fld (pv 0) rfl) pa_nil)) (pe_op op_mul (pv 2) (pe_callB (kLen K rfl) (by rfl) T.n_len (by decide +kernel) (pa_cons (pe_fld (pv 0) rfl) pa_nil)))) (pv 4)))))))), fun ds R h => ?_⟩
  obtain ⟨⟨i, p, a1, b1⟩, n, rfl, ok, hn, hR⟩ := h
  walk_at "start"
  have cl := T.l_NumberSet; have x1 := T.x_NumberSet_since; have x2 := T.x_NumberSet_period; have x3 := T.x_NumberSet_firsts; have x4 := T.x_NumberSet_later
  have h2 := ok.h2
  have h3 := ok.h3
  have ha := ok.h4.length
  have hb := ok.h5.length
  unfold nsF natsD
  unfold below at hR
  dsimp only at hR h2 h3 ha hb ⊢
  have h1 : i ≤ 1000 := ok.h1
  have la : (a1.map natD).length = a1.length := List.length_map _
  have lb : (b1.map natD).length = b1.length := List.length_map _
  walk_at "w"
  refine ⟨_, _, _, rfl, by omega, by omega, ?_⟩
  walk_at "w"
  refine BV.c_dec (fun h => ?_) fun h => ?_
  · rw [if_pos (by omega)] at hR
    walk_at "w"
    refine g_lcSel natD (fun m => decide (m < n)) (np1 (by rfl) fun _ => rfl) ?_
    walk_at "w"
    refine ⟨a1, rfl, by omega, fun m hm => ?_, ?_⟩
    · dsimp only [wipeS, List.set]
      walk_at "w"
      refine ⟨by rw [decide_eq_decide]; omega, fun _ => ?_⟩
      walk_at "w"
      rfl
    walk_at "w"
    rw [List.length_map]
    exact hR
  · rw [if_neg (by omega)] at hR
    have e1 : ((n : Int) - (i : Int)) / (p : Int) = (((n - i) / p : Nat) : Int) := by
      rw [show (n : Int) - (i : Int) = ((n - i : Nat) : Int) by omega]
      exact (Int.natCast_ediv _ _).symm
    have e2 : ((n : Int) - (i : Int)) % (p : Int) = (((n - i) % p : Nat) : Int) := by
      rw [show (n : Int) - (i : Int) = ((n - i : Nat) : Int) by omega]
      exact (Int.natCast_emod _ _).symm
    walk_at "w"
    · refine L2.divp_ok (by omega) ?_
      rcases bits_num (i := i) hn with z | z
      · omega
      · omega
    rw [e1, e2]
    walk_at "w"
    refine g_lcSel natD (fun m => decide (m < (n - i) % p)) (np1 (by rfl) fun _ => rfl) ?_
    walk_at "w"
    refine ⟨b1, rfl, by omega, fun m hm => ?_, ?_⟩
    · dsimp only [wipeS, List.set]
      walk_at "w"
      refine ⟨by rw [decide_eq_decide]; omega, fun _ => ?_⟩
      walk_at "w"
      rfl
    walk_at "w"
    rw [List.length_map, List.length_map, List.length_map]
    have e : ((a1.length + (n - i) / p * b1.length + (b1.filter fun m => decide (m < (n - i) % p)).length : Nat) : Int) = (a1.length : Int) + (((n - i) / p : Nat) : Int) * (b1.length : Int) + ((b1.filter fun m => decide (m < (n - i) % p)).length : Int) := by push_cast; rfl
    rw [← e]
    exact hR
def S_below : List Dat → (Dat → Prop) → Prop := fun ds R => ∃ (f : Form) (n : Nat), ds = [formD f, natD n] ∧ FOk f ∧ n ≤ 10 ^ 40 ∧ R (natD (below f n))
theorem ok__law_below (T : Tx P K mg a) : FnOk P wd K mg base CX0 1 a.f__law_below a.d__law_below ["form", "number"] (spF K S_below) :=
  okF T.F__law_below sc__law_below (fun ds R h => by obtain ⟨⟨i, p, a1, b1⟩, n, rfl, ok, hn, hR⟩ := h; rfl) fun cdv A outer s H E hr => by
  refine ⟨_, (pss_cons (ps_asg (pv 0) (pg_tup rfl (pgs_cons (pg_name (i := 2) sc__law_below.nd rfl (Or.inl rfl)) (pgs_cons (pg_name (i := 3) sc__law_below.nd rfl (Or.inl rfl)) (pgs_cons (pg_name (i := 4) sc__law_below.nd rfl (Or.inl rfl)) (pgs_cons (pg_name (i := 5) sc__law_below.nd rfl (Or.inl rfl)) pgs_nil))))))
 (pss_cons (ps_if (pt_cmpR op_le (pv 1) (pv 2) (nomark _))
  (pss_one (ps_ret (pe_callB (kLen K rfl) (by rfl) T.n_len (by decide +kernel) (pa_cons (pe_lc (own := [("one", 7)]) rfl sc__law_below.nd (pi_tup (pv 4)) (blkOk_by (own := [("one", 7)]) (N := N__law_below) (sc := defScope s__law_below) (by decide +kernel)) (fun _ _ _ _ _ => (pg_name (i := 7) sc__law_below.nd rfl (Or.inl rfl))) (fun _ _ _ _ _ => (pts_one (pt_cmpR op_lt (pv 7) (pv 1) (nomark _)))) (fun _ _ _ _ _ => (pv 7))) pa_nil))))
  pss_nil)
 (pss_cons (ps_set (i := 6) sc__law_below.nd rfl (Or.inr rfl) (pe_op op_modN (pe_callTy call_int_ (by rfl) T.n_int (by decide +kernel) (pa_cons (pe_op op_sub (pv 1) (pv 2)) pa_nil)) (pv 3)))
 (pss_one (ps_ret (pe_op op_add (pe_op op_add (pe_callB (kLen K rfl) (by rfl) T.n_len (by decide +kernel) (pa_cons (pv 4) pa_nil)) (pe_op op_mul (pe_op op_fdivN (pe_op op_sub (pv 1) (pv 2)) (pv 3)) (pe_callB (kLen K rfl) (by rfl) T.n_len (by decide +kernel) (pa_cons (pv 5) pa_nil)))) (pe_callB (kLen K rfl) (by rfl) T.n_len (by decide +kernel) (pa_cons (pe_lc (own := [("one", 7)]) rfl sc__law_below.nd (pi_tup (pv 5)) (blkOk_by (own := [("one", 7)]) (N := N__law_below) (sc := defScope s__law_below) (by decide +kernel)) (fun _ _ _ _ _ => (pg_name (i := 7) sc__law_below.nd rfl (Or.inl rfl))) (fun _ _ _ _ _ => (pts_one (pt_cmpR op_lt (pv 7) (pv 6) (nomark _)))) (fun _ _ _ _ _ => (pv 7))) pa_nil)))))))), fun ds R h => ?_⟩
  obtain ⟨⟨i, p, a1, b1⟩, n, rfl, ok, hn, hR⟩ := h
  walk_at "start"
  have h2 := ok.h2
  have h3 := ok.h3
  have ha := ok.h4.length
  have hb := ok.h5.length
  unfold formD natsD
  unfold below at hR
  dsimp only at hR h2 h3 ha hb ⊢
  have h1 : i ≤ 1000 := ok.h1
  have la : (a1.map natD).length = a1.length := List.length_map _
  have lb : (b1.map natD).length = b1.length := List.length_map _
  walk_at "w"
  refine BV.c_dec (fun h => ?_) fun h => ?_
  · rw [if_pos (by omega)] at hR
    walk_at "w"
    refine g_lcSel natD (fun m => decide (m < n)) (np1 (by rfl) fun _ => rfl) ?_
    walk_at "w"
    refine ⟨a1, rfl, by omega, fun m hm => ?_, ?_⟩
    · dsimp only [wipeS, List.set]
      walk_at "w"
      refine ⟨by rw [decide_eq_decide]; omega, fun _ => ?_⟩
      walk_at "w"
      rfl
    walk_at "w"
    rw [List.length_map]
    exact hR
  · rw [if_neg (by omega)] at hR
    have e1 : ((n : Int) - (i : Int)).fdiv (p : Int) = (((n - i) / p : Nat) : Int) := by
      rw [show (n : Int) - (i : Int) = ((n - i : Nat) : Int) by omega]
      exact (Int.ofNat_fdiv _ _).symm
    have e2 : ((n : Int) - (i : Int)).fmod (p : Int) = (((n - i) % p : Nat) : Int) := fmod_nat n i p (by omega)
    walk_at "w"
    rw [e1, e2]
    refine g_lcSel natD (fun m => decide (m < (n - i) % p)) (np1 (by rfl) fun _ => rfl) ?_
    walk_at "w"
    refine ⟨b1, rfl, by omega, fun m hm => ?_, ?_⟩
    · dsimp only [wipeS, List.set]
      walk_at "w"
      refine ⟨by rw [decide_eq_decide]; omega, fun _ => ?_⟩
      walk_at "w"
      rfl
    walk_at "w"
    rw [List.length_map, List.length_map, List.length_map]
    have e : ((a1.length + (n - i) / p * b1.length + (b1.filter fun m => decide (m < (n - i) % p)).length : Nat) : Int) = (a1.length : Int) + (((n - i) / p : Nat) : Int) * (b1.length : Int) + ((b1.filter fun m => decide (m < (n - i) % p)).length : Int) := by push_cast; rfl
    rw [← e]
    exact hR
theorem rt_of {f : Form} (ok : FOk f) : FRt f := ⟨ok.h4.1, ok.h4.2, ok.h5.1, ok.h5.2, ok.h2⟩
theorem grow {f : Form} (rt : FRt f) (t many : Nat) (h : ((mem (inside f) (f.1 + t * f.2.1)).take many).length < many) :
    (mem (inside f) (f.1 + (t + 1) * f.2.1)).take many = (mem (inside f) (f.1 + t * f.2.1)).take many ++ (f.2.2.2.map fun n => f.1 + t * f.2.1 + n).take (many - ((mem (inside f) (f.1 + t * f.2.1)).take many).length) := by
  have e := mem_block rt t
  have e2 : f.1 + (t + 1) * f.2.1 = f.1 + t * f.2.1 + f.2.1 := by rw [Nat.succ_mul]; omega
  rw [List.length_take] at h ⊢
  have hm : min many (mem (inside f) (f.1 + t * f.2.1)).length = (mem (inside f) (f.1 + t * f.2.1)).length := by omega
  rw [e2, e, List.take_append, hm]
def S_listed (a : Ad) : List Dat → (Dat → Prop) → Prop := fun ds R => ∃ (f : Form) (many : Nat), ds = [.obj a.C_NumberSet (nsF f), natD many] ∧ FOk f ∧ many ≤ 200 ∧ ∀ s, Cut (inside f) many s → R (natsD ((mem (inside f) s).take many))
theorem ok_NumberSet_listed (T : Tx P K mg a) : FnOk P wd K mg base CX0 3 a.f_NumberSet_listed a.d_NumberSet_listed ["self", "many"] (spF K (S_listed a)) :=
  okF T.F_NumberSet_listed sc_NumberSet_listed (fun ds R h => by obtain ⟨f, many, rfl, ok, hm, hR⟩ := h; rfl) fun cdv A outer s H E hr => by
  refine ⟨_, (pss_cons (ps_expr (pe_call (ok_check_number T) (hr.mono (by decide)) (by rfl) T.g_check_number T.k_check_number T.b_check_number .nil pass0 (pa_cons (pv 1) (pa_cons pe_int (pa_cons (pe_glob (v := .int 200) rfl T.c_MOST_LISTED ⟨_, rfl⟩) pa_nil)))))
 (pss_cons (ps_set (i := 2) sc_NumberSet_listed.nd rfl (Or.inl rfl) (pe_callTy (kListOf K rfl) (by rfl) T.n_list (by decide +kernel) (pa_cons (pe_slice (kSlA K rfl) (pe_fld (pv 0) rfl) po_none (po_some (pv 1))) pa_nil)))
 (pss_cons (ps_set (i := 3) sc_NumberSet_listed.nd rfl (Or.inr rfl) (pe_fld (pv 0) rfl))
 (pss_cons (ps_while PassesOwn.never (PW.pt (pw_and (pt_tr (pe_fld (pv 0) rfl)) (pw_and1 (pt_cmpR op_lt (pe_callB (kLen K rfl) (by rfl) T.n_len (by decide +kernel) (pa_cons (pv 2) pa_nil)) (pv 1) (nomark _)))))
  (pss_cons (ps_set (i := 2) sc_NumberSet_listed.nd rfl (Or.inl rfl) (pe_op op_cat (pv 2) (pe_slice sl_list (pe_lc (own := [("number", 4)]) rfl sc_NumberSet_listed.nd (pi_tup (pe_fld (pv 0) rfl)) (blkOk_by (own := [("number", 4)]) (N := N_NumberSet_listed) (sc := defScope s_NumberSet_listed) (by decide +kernel)) (fun _ _ _ _ _ => (pg_name (i := 4) sc_NumberSet_listed.nd rfl (Or.inl rfl))) (fun _ _ _ _ _ => pts_nil) (fun _ _ _ _ _ => (pe_op op_add (pv 3) (pv 4)))) po_none (po_some (pe_op op_sub (pv 1) (pe_callB (kLen K rfl) (by rfl) T.n_len (by decide +kernel) (pa_cons (pv 2) pa_nil)))))))
 (pss_one (ps_set (i := 3) sc_NumberSet_listed.nd rfl (Or.inr rfl) (pe_op op_add (pv 3) (pe_fld (pv 0) rfl))))))
 (pss_one (ps_ret (pe_callTy (kTupOf K rfl) (by rfl) T.n_tuple (by decide +kernel) (pa_cons (pv 2) pa_nil)))))))), fun ds R h => ?_⟩
  obtain ⟨f, many, rfl, ok, hm, hR⟩ := h
  walk_at "start"
  have cl := T.l_NumberSet; have x1 := T.x_NumberSet_since; have x2 := T.x_NumberSet_period; have x3 := T.x_NumberSet_firsts; have x4 := T.x_NumberSet_later
  have h1 := ok.h1
  have h2 := ok.h2
  have h3 := ok.h3
  have rt := rt_of ok
  have ha := ok.h4.length
  have hb := ok.h5.length
  have e0 : BV.cut (f.2.2.1.map natD) none (some (many : Int)) = ((mem (inside f) (f.1 + 0 * f.2.1)).take many).map natD := by
    rw [cut_to _ (by omega), Int.toNat_natCast, Nat.zero_mul, Nat.add_zero, mem_firsts rt, List.map_take]
  have e00 : natD f.1 = natD (f.1 + 0 * f.2.1) := by rw [Nat.zero_mul, Nat.add_zero]
  unfold nsF natsD
  walk_at "w"
  refine ⟨_, _, _, rfl, by omega, by omega, ?_⟩
  walk_at "w"
  rw [e0]
  refine run_cut (fun ρ' => ∃ s, ρ' = [.d (.obj a.C_NumberSet (nsF f)), .d (natD many), .d (.lst (((mem (inside f) s).take many).map natD)), .d (natD s), .no] ∧ Cut (inside f) many s) ?_ ?_
  · refine run_while (fun m ρ' => ∃ t, ρ' = [.d (.obj a.C_NumberSet (nsF f)), .d (natD many), .d (.lst (((mem (inside f) (f.1 + t * f.2.1)).take many).map natD)), .d (natD (f.1 + t * f.2.1)), .no] ∧ m = many - ((mem (inside f) (f.1 + t * f.2.1)).take many).length) _ ⟨0, by rw [← e00], rfl⟩ fun m ρ' hw => ?_
    obtain ⟨t, rfl, rfl⟩ := hw
    have lt : ((mem (inside f) (f.1 + t * f.2.1)).take many).length = min many (mem (inside f) (f.1 + t * f.2.1)).length := List.length_take
    unfold nsF natsD
    walk_at "w"
    by_cases hbl : f.2.2.2 = []
    · have emp : (List.map natD f.2.2.2).isEmpty = true := by rw [hbl]; rfl
      refine ⟨fun z => absurd z (by rw [emp]; decide), fun _ => ?_⟩
      walk_at "w"
      exact ⟨_, rfl, .inr fun k hk => (lasts_false rt).mp hbl k (by omega)⟩
    · have emp : (List.map natD f.2.2.2).isEmpty = false := by
        cases hb2 : f.2.2.2 with
        | nil => exact absurd hb2 hbl
        | cons y r => rfl
      refine ⟨fun _ => ?_, fun z => absurd z (by rw [emp]; decide)⟩
      walk_at "w"
      rw [List.length_map, lt]
      refine BV.c_dec (fun h => ?_) fun h => ?_
      · have hlt : ((mem (inside f) (f.1 + t * f.2.1)).take many).length < many := by omega
        have gr := grow rt t many hlt
        have h0 := List.length_pos_iff.mpr hbl
        have hmin : min many (mem (inside f) (f.1 + t * f.2.1)).length = (mem (inside f) (f.1 + t * f.2.1)).length := by omega
        have gl : ((mem (inside f) (f.1 + (t + 1) * f.2.1)).take many).length = (mem (inside f) (f.1 + t * f.2.1)).length + min (many - (mem (inside f) (f.1 + t * f.2.1)).length) f.2.2.2.length := by
          rw [gr, List.length_append, lt, List.length_take, List.length_map, hmin]
        walk_at "w"
        refine g_lcF natD (fun n => .int (((f.1 + t * f.2.1 : Nat) : Int) + (n : Int))) (np1 (by rfl) fun _ => rfl) ?_
        walk_at "w"
        refine ⟨f.2.2.2, rfl, by omega, fun m hm => ?_, ?_⟩
        · dsimp only [wipeS, List.set]
          walk_at "w"
          rfl
        have hc : BV.cut (f.2.2.2.map fun n : Nat => Dat.int (((f.1 + t * f.2.1 : Nat) : Int) + (n : Int))) none (some ((many : Int) - (((mem (inside f) (f.1 + t * f.2.1)).take many).map natD).length)) = ((f.2.2.2.map fun n => f.1 + t * f.2.1 + n).take (many - ((mem (inside f) (f.1 + t * f.2.1)).take many).length)).map natD := by
          rw [List.length_map, cut_to _ (by omega), List.map_take, List.map_map]
          congr 1
          omega
        walk_at "w"
        · refine ⟨_, ?_, t + 1, ?_, rfl⟩
          · rw [gl]
            omega
          · rw [hc, gr, List.map_append]
            dsimp only [List.set]
            have es : Dat.int (((f.1 + t * f.2.1 : Nat) : Int) + (f.2.1 : Int)) = natD (f.1 + (t + 1) * f.2.1) := by
              rw [Nat.succ_mul]
              show Dat.int _ = Dat.int _
              congr 1
              omega
            rw [es]
        · rw [hc, List.length_map, List.length_map, List.length_take, List.length_take]
          omega
      · walk_at "w"
        exact ⟨_, rfl, .inl (by omega)⟩
  rintro ρ' ⟨s, rfl, hs⟩
  have := hR s hs
  walk_at "w"
  exact this

end

section
variable {P : Program} {wd : World} {K : PySem.W.Frag} {mg : Str → Option Value} {base : Heap} {a : Ad}
theorem shw_i {z : Int} (h : z.natAbs < 10 ^ 45) : Shw (.int z) := by
  refine shw_of ?_ ?_ ?_
  · show decide (z.natAbs < 10 ^ 50) = true
    exact decide_eq_true (Nat.lt_of_lt_of_le h (by decide))
  · show (PyData.int z).depth ≤ 60
    simp only [PyData.depth]
    exact Nat.zero_le _
  · show (PyData.int z).weight ≤ 100000
    unfold PyData.weight
    split
    · exact Nat.zero_le _
    · rename_i hz
      have hn : z.natAbs ≠ 0 := fun e => hz (by rw [Int.natAbs_eq_zero.mp e]; rfl)
      have := (Nat.log2_lt hn).mpr (Nat.lt_of_lt_of_le h (show 10 ^ 45 ≤ 2 ^ 200 by decide))
      show z.natAbs.log2 + 1 ≤ 100000
      omega
theorem shw_b (b : Bool) : Shw (.bl b) := by
  refine shw_of rfl ?_ ?_
  · show (PyData.bool b).depth ≤ 60
    simp only [PyData.depth]
    exact Nat.zero_le _
  · show (PyData.bool b).weight ≤ 100000
    cases b <;> decide +kernel
abbrev numW : List Nat := (Str.ofString "number").cps.toList
abbrev plaW : List Nat := (Str.ofString "place").cps.toList
abbrev abW : List Nat := (Str.ofString "ab").cps.toList
abbrev rowD (x y u v : Dat) (k : List Nat) (w : Dat) : Dat := .tup [.tup [x, y, u, v], .str k, w]
abbrev wrongL : List Dat := [rowD (.int (-1)) (.int 1) (.tup []) (.tup []) numW (.int (-1)), rowD (.int 1001) (.int 1) (.tup []) (.tup []) numW (.int 1001), rowD (.int 0) (.int 0) (.tup []) (.tup []) numW (.int 0),
  rowD (.int 0) (.int 1001) (.tup []) (.tup []) numW (.int 1001), rowD (.bl true) (.int 1) (.tup []) (.tup []) numW (.bl true), rowD (.int 2) (.int 3) .non (.tup []) plaW (.int (-1)), rowD (.int 2) (.int 3) (.tup []) (.str abW) plaW (.int (-1)),
  rowD (.int 2) (.int 3) (.tup [.int 0, .int 2]) (.tup [.int 9]) plaW (.int 1), rowD (.int 2) (.int 3) (.tup [.int 1, .int 0]) (.tup []) plaW (.int 1), rowD (.int 2) (.int 3) (.tup [.int 0, .int 1]) (.tup [.int 0, .int 3]) plaW (.int 3),
  rowD (.int 5) (.int 4) (.tup [.int 2]) (.tup [.int 1, .int 1]) plaW (.int 2), rowD (.int 5) (.int 4) (.tup [.int 2, .bl true]) (.tup []) plaW (.int 1)]
/-- what one of these rows does -/
def Bad (a : Ad) (x : Dat) : Prop := ∃ (x0 x1 x2 x3 : Dat) (k : List Nat) (w : Dat) (C : Addr) (fs : List (Str × Dat)), x = rowD x0 x1 x2 x3 k w ∧ Shw w ∧ (∀ R RE, RE C fs → S_initX a [x0, x1, x2, x3] R RE) ∧
  ((C = a.C_BadNumber ∧ k = numW ∧ fs = [(("thing" : Str), w)]) ∨ (C = a.C_BadMembers ∧ k = plaW ∧ fs = [(("place" : Str), w)]))
theorem good0 {xs : List Dat} {b : Nat} {z : Int} (h : xs[0]? = some (.int z)) (h0 : 0 ≤ z) (h1 : z ≤ (b : Int) - 1) : ∀ k, k < 1 → goodM xs b k := fun k hk => by
  obtain rfl : k = 0 := by omega
  exact ⟨z, h, h0, h1, fun j e => by omega⟩
theorem good1 {xs : List Dat} {b : Nat} {z y : Int} (h : xs[0]? = some (.int z)) (h0 : 0 ≤ z) (h1 : z ≤ (b : Int) - 1) (g : xs[1]? = some (.int y)) (g0 : z < y) (g1 : y ≤ (b : Int) - 1) : ∀ k, k < 2 → goodM xs b k := fun k hk => by
  have : k = 0 ∨ k = 1 := by omega
  rcases this with rfl | rfl
  · exact ⟨z, h, h0, h1, fun j e => by omega⟩
  · refine ⟨y, g, by omega, g1, fun j e => ?_⟩
    obtain rfl : j = 0 := by omega
    exact ⟨z, h, g0⟩
theorem wrong_ok (a : Ad) : ∀ x ∈ wrongL, Bad a x := fun x hx => by
  simp only [List.mem_cons, List.not_mem_nil, or_false] at hx
  rcases hx with rfl | rfl | rfl | rfl | rfl | rfl | rfl | rfl | rfl | rfl | rfl | rfl
  · exact ⟨_, _, _, _, _, _, _, _, rfl, shw_i (by decide), fun R RE h => ⟨_, _, _, _, rfl, .inl ⟨.inl ⟨_, rfl⟩, by decide, h⟩⟩, .inl ⟨rfl, rfl, rfl⟩⟩
  · exact ⟨_, _, _, _, _, _, _, _, rfl, shw_i (by decide), fun R RE h => ⟨_, _, _, _, rfl, .inl ⟨.inl ⟨_, rfl⟩, by decide, h⟩⟩, .inl ⟨rfl, rfl, rfl⟩⟩
  · exact ⟨_, _, _, _, _, _, _, _, rfl, shw_i (by decide), fun R RE h => ⟨_, _, _, _, rfl, .inr ⟨0, rfl, by decide, .inl ⟨.inl ⟨_, rfl⟩, by decide, h⟩⟩⟩, .inl ⟨rfl, rfl, rfl⟩⟩
  · exact ⟨_, _, _, _, _, _, _, _, rfl, shw_i (by decide), fun R RE h => ⟨_, _, _, _, rfl, .inr ⟨0, rfl, by decide, .inl ⟨.inl ⟨_, rfl⟩, by decide, h⟩⟩⟩, .inl ⟨rfl, rfl, rfl⟩⟩
  · exact ⟨_, _, _, _, _, _, _, _, rfl, shw_b _, fun R RE h => ⟨_, _, _, _, rfl, .inl ⟨.inr ⟨_, rfl⟩, rfl, h⟩⟩, .inl ⟨rfl, rfl, rfl⟩⟩
  · exact ⟨_, _, _, _, _, _, _, _, rfl, shw_i (by decide), fun R RE h => ⟨_, _, _, _, rfl, .inr ⟨2, rfl, by decide, .inr ⟨3, rfl, by decide, by decide, .inl ⟨.inl rfl, h⟩⟩⟩⟩, .inr ⟨rfl, rfl, rfl⟩⟩
  · exact ⟨_, _, _, _, _, _, _, _, rfl, shw_i (by decide), fun R RE h => ⟨_, _, _, _, rfl, .inr ⟨2, rfl, by decide, .inr ⟨3, rfl, by decide, by decide, .inl ⟨.inr ⟨⟨_, rfl⟩, _, rfl⟩, h⟩⟩⟩⟩, .inr ⟨rfl, rfl, rfl⟩⟩
  · exact ⟨_, _, _, _, _, _, _, _, rfl, shw_i (by decide), fun R RE h => ⟨_, _, _, _, rfl, .inr ⟨2, rfl, by decide, .inr ⟨3, rfl, by decide, by decide, .inr ⟨_, _, rfl, rfl, by decide, by decide, .inl ⟨1, by decide, good0 rfl (by decide) (by decide), ⟨_, rfl, .inl ⟨_, rfl⟩, .inl (by decide)⟩, by decide, h⟩⟩⟩⟩⟩, .inr ⟨rfl, rfl, rfl⟩⟩
  · exact ⟨_, _, _, _, _, _, _, _, rfl, shw_i (by decide), fun R RE h => ⟨_, _, _, _, rfl, .inr ⟨2, rfl, by decide, .inr ⟨3, rfl, by decide, by decide, .inr ⟨_, _, rfl, rfl, by decide, by decide, .inl ⟨1, by decide, good0 rfl (by decide) (by decide), ⟨_, rfl, .inl ⟨_, rfl⟩, .inr ⟨0, 1, 0, rfl, rfl, by decide, by decide, rfl, by decide⟩⟩, by decide, h⟩⟩⟩⟩⟩, .inr ⟨rfl, rfl, rfl⟩⟩
  · exact ⟨_, _, _, _, _, _, _, _, rfl, shw_i (by decide), fun R RE h => ⟨_, _, _, _, rfl, .inr ⟨2, rfl, by decide, .inr ⟨3, rfl, by decide, by decide, .inr ⟨_, _, rfl, rfl, by decide, by decide, .inr ⟨good1 rfl (by decide) (by decide) rfl (by decide) (by decide), 1, by decide, good0 rfl (by decide) (by decide), ⟨_, rfl, .inl ⟨_, rfl⟩, .inl (by decide)⟩, by decide, h⟩⟩⟩⟩⟩, .inr ⟨rfl, rfl, rfl⟩⟩
  · exact ⟨_, _, _, _, _, _, _, _, rfl, shw_i (by decide), fun R RE h => ⟨_, _, _, _, rfl, .inr ⟨5, rfl, by decide, .inr ⟨4, rfl, by decide, by decide, .inr ⟨_, _, rfl, rfl, by decide, by decide, .inr ⟨good0 rfl (by decide) (by decide), 1, by decide, good0 rfl (by decide) (by decide), ⟨_, rfl, .inl ⟨_, rfl⟩, .inr ⟨0, 1, 1, rfl, rfl, by decide, by decide, rfl, by decide⟩⟩, by decide, h⟩⟩⟩⟩⟩, .inr ⟨rfl, rfl, rfl⟩⟩
  · exact ⟨_, _, _, _, _, _, _, _, rfl, shw_i (by decide), fun R RE h => ⟨_, _, _, _, rfl, .inr ⟨5, rfl, by decide, .inr ⟨4, rfl, by decide, by decide, .inr ⟨_, _, rfl, rfl, by decide, by decide, .inl ⟨1, by decide, good0 rfl (by decide) (by decide), ⟨_, rfl, .inr ⟨_, rfl⟩, .inl rfl⟩, by decide, h⟩⟩⟩⟩⟩, .inr ⟨rfl, rfl, rfl⟩⟩
def S_refusals (a : Ad) : List Dat → (Dat → Prop) → Prop := fun ds R => ∃ f : Form, ds = [.obj a.C_NumberSet (nsF f)] ∧ R (.bl true)
theorem ok__law_refusals (T : Tx P K mg a) : FnG P wd K mg base CX0 6 a.f__law_refusals a.d__law_refusals ["made"] (spF K (S_refusals a)) :=
  okG T.F__law_refusals sc__law_refusals (fun ds R h => by obtain ⟨f, rfl, hR⟩ := h; rfl) fun cdv A outer s H E hG hr => by
  refine ⟨_, (pss_cons (ps_set (i := 1) sc__law_refusals.nd rfl (Or.inl rfl) (pe_lst (pa_cons (pe_tup (pa_cons (pe_tup (pa_cons (pe_un un_neg pe_int) (pa_cons pe_int (pa_cons (pe_tup pa_nil) (pa_cons (pe_tup pa_nil) pa_nil))))) (pa_cons pe_str (pa_cons (pe_un un_neg pe_int) pa_nil)))) (pa_cons (pe_tup (pa_cons (pe_tup (pa_cons pe_int (pa_cons pe_int (pa_cons (pe_tup pa_nil) (pa_cons (pe_tup pa_nil) pa_nil))))) (pa_cons pe_str (pa_cons pe_int pa_nil)))) (pa_cons (pe_tup (pa_cons (pe_tup (pa_cons pe_int (pa_cons pe_int (pa_cons (pe_tup pa_nil) (pa_cons (pe_tup pa_nil) pa_nil))))) (pa_cons pe_str (pa_cons pe_int pa_nil)))) (pa_cons (pe_tup (pa_cons (pe_tup (pa_cons pe_int (pa_cons pe_int (pa_cons (pe_tup pa_nil) (pa_cons (pe_tup pa_nil) pa_nil))))) (pa_cons pe_str (pa_cons pe_int pa_nil)))) (pa_cons (pe_tup (pa_cons (pe_tup (pa_cons pe_bl (pa_cons pe_int (pa_cons (pe_tup pa_nil) (pa_cons (pe_tup pa_nil) pa_nil))))) (pa_cons pe_str (pa_cons pe_bl pa_nil)))) (pa_cons (pe_tup (pa_cons (pe_tup (pa_cons pe_int (pa_cons pe_int (pa_cons pe_non (pa_cons (pe_tup pa_nil) pa_nil))))) (pa_cons pe_str (pa_cons (pe_un un_neg pe_int) pa_nil)))) (pa_cons (pe_tup (pa_cons (pe_tup (pa_cons pe_int (pa_cons pe_int (pa_cons (pe_tup pa_nil) (pa_cons pe_str pa_nil))))) (pa_cons pe_str (pa_cons (pe_un un_neg pe_int) pa_nil)))) (pa_cons (pe_tup (pa_cons (pe_tup (pa_cons pe_int (pa_cons pe_int (pa_cons (pe_tup (pa_cons pe_int (pa_cons pe_int pa_nil))) (pa_cons (pe_tup (pa_cons pe_int pa_nil)) pa_nil))))) (pa_cons pe_str (pa_cons pe_int pa_nil)))) (pa_cons (pe_tup (pa_cons (pe_tup (pa_cons pe_int (pa_cons pe_int (pa_cons (pe_tup (pa_cons pe_int (pa_cons pe_int pa_nil))) (pa_cons (pe_tup pa_nil) pa_nil))))) (pa_cons pe_str (pa_cons pe_int pa_nil)))) (pa_cons (pe_tup (pa_cons (pe_tup (pa_cons pe_int (pa_cons pe_int (pa_cons (pe_tup (pa_cons pe_int (pa_cons pe_int pa_nil))) (pa_cons (pe_tup (pa_cons pe_int (pa_cons pe_int pa_nil))) pa_nil))))) (pa_cons pe_str (pa_cons pe_int pa_nil)))) (pa_cons (pe_tup (pa_cons (pe_tup (pa_cons pe_int (pa_cons pe_int (pa_cons (pe_tup (pa_cons pe_int pa_nil)) (pa_cons (pe_tup (pa_cons pe_int (pa_cons pe_int pa_nil))) pa_nil))))) (pa_cons pe_str (pa_cons pe_int pa_nil)))) (pa_cons (pe_tup (pa_cons (pe_tup (pa_cons pe_int (pa_cons pe_int (pa_cons (pe_tup (pa_cons pe_int (pa_cons pe_bl pa_nil))) (pa_cons (pe_tup pa_nil) pa_nil))))) (pa_cons pe_str (pa_cons pe_int pa_nil)))) pa_nil))))))))))))))
 (pss_cons (ps_for PassesOwn.never rfl (pi_list (pv 1)) (pg_tup rfl (pgs_cons (pg_name (i := 2) sc__law_refusals.nd rfl (Or.inl rfl)) (pgs_cons (pg_name (i := 3) sc__law_refusals.nd rfl (Or.inl rfl)) (pgs_cons (pg_name (i := 4) sc__law_refusals.nd rfl (Or.inl rfl)) pgs_nil))))
  (pss_one (ps_tryC rfl rfl sc__law_refusals.nd takes0
 (fun W pn xe tk po => (pss_cons (ps_set (i := 5) sc__law_refusals.nd rfl (Or.inl rfl) (pe_makeS T.m_NumberSet (okx_NumberSetu_initu T) (hr.mono (by decide)) (by rfl) T.g_NumberSet T.b_NumberSetu_initu (passAt tk) (pa_cons (pe_ix (kIxT K rfl) (pv 2) pe_int (fun _ _ => rfl)) (pa_cons (pe_ix (kIxT K rfl) (pv 2) pe_int (fun _ _ => rfl)) (pa_cons (pe_ix (kIxT K rfl) (pv 2) pe_int (fun _ _ => rfl)) (pa_cons (pe_ix (kIxT K rfl) (pv 2) pe_int (fun _ _ => rfl)) pa_nil))))))
 (pss_one (ps_ret (pe_and (pe_cmpR op_isN_ (pv 5) pe_non (nomark _)) (pe_one pe_bl))))))
 (.named ⟨by rfl, by decide, .inl T.g_BadNumber⟩ (i := 6) rfl rfl (fun ea oe ecls ed epn hz hf => (pss_one (ps_if (PW.pt (pw_or (pt_cmpR op_ne (pv 3) pe_str (nomark _)) (pw_or1 (pt_cmpR op_ne (pe_callB (kReprD K rfl hG (have h := units65 hr; h)) (by rfl) T.n_repr (by decide +kernel) (pa_cons (pe_xf T.xf_BadNumber T.xn_BadNumber_thing hz hf (pv 6)) pa_nil)) (pe_callB (kReprD K rfl hG (have h := units65 hr; h)) (by rfl) T.n_repr (by decide +kernel) (pa_cons (pv 4) pa_nil)) (nomark _)))))
  (pss_one (ps_ret pe_bl))
  pss_nil)))
 (.named ⟨by rfl, by decide, .inl T.g_BadMembers⟩ (i := 6) rfl rfl (fun ea oe ecls ed epn hz hf => (pss_one (ps_if (PW.pt (pw_or (pt_cmpR op_ne (pv 3) pe_str (nomark _)) (pw_or1 (pt_cmpR op_ne (pe_callB (kReprD K rfl hG (have h := units65 hr; h)) (by rfl) T.n_repr (by decide +kernel) (pa_cons (pe_xf T.xf_BadMembers T.xn_BadMembers_place hz hf (pv 6)) pa_nil)) (pe_callB (kReprD K rfl hG (have h := units65 hr; h)) (by rfl) T.n_repr (by decide +kernel) (pa_cons (pv 4) pa_nil)) (nomark _)))))
  (pss_one (ps_ret pe_bl))
  pss_nil)))
 .nil)))))
 (pss_cons (ps_for PassesOwn.never rfl (pi_range1 rfl T.n_range (pa_cons pe_int pa_nil)) (pg_name (i := 7) sc__law_refusals.nd rfl (Or.inl rfl))
  (pss_cons (ps_set (i := 8) sc__law_refusals.nd rfl (Or.inl rfl) (pe_ix (kIxL K rfl) (pe_lst (pa_cons pe_int (pa_cons (pe_un un_neg pe_int) (pa_cons (pe_op op_add (pe_op op_pow pe_int pe_int) pe_int) pa_nil)))) (pv 7) (fun _ _ => rfl)))
 (pss_one (ps_tryC rfl rfl sc__law_refusals.nd takes0
 (fun W pn xe tk po => (pss_cons (ps_set (i := 5) sc__law_refusals.nd rfl (Or.inl rfl) (pe_ifExp (pt_cmpR op_lt (pv 7) pe_int (nomark _)) (pe_mthS (pv 0) T.l_NumberSet T.h_NumberSet_listed (fnR_ofX (okx_NumberSet_listed T) T.b_NumberSet_listed) (hr.mono (by decide)) (passAt tk) (pa_cons (pv 8) pa_nil)) (pe_ifExp (pt_cmpR op_eq (pv 7) pe_int (nomark _)) (pe_mthS (pv 0) T.l_NumberSet T.h_NumberSet_counted (fnR_ofX (okx_NumberSet_counted T) T.b_NumberSet_counted) (hr.mono (by decide)) (passAt tk) (pa_cons (pv 8) pa_nil)) (pe_cmpRS (op_inO T.p_NumberSetu_containsu (fnR_ofX (okx_NumberSetu_containsu T) T.b_NumberSetu_containsu) (hr.mono (by decide)) (passAt tk)) (pv 8) (pv 0) (by rfl)))))
 (pss_one (ps_ret (pe_and (pe_cmpR op_isN_ (pv 5) pe_non (nomark _)) (pe_one pe_bl))))))
 (.named ⟨by rfl, by decide, .inl T.g_BadNumber⟩ (i := 6) rfl rfl (fun ea oe ecls ed epn hz hf => (pss_one (ps_if (pt_cmpR op_ne (pe_callB (kReprD K rfl hG (have h := units65 hr; h)) (by rfl) T.n_repr (by decide +kernel) (pa_cons (pe_xf T.xf_BadNumber T.xn_BadNumber_thing hz hf (pv 6)) pa_nil)) (pe_callB (kReprD K rfl hG (have h := units65 hr; h)) (by rfl) T.n_repr (by decide +kernel) (pa_cons (pv 8) pa_nil)) (nomark _))
  (pss_one (ps_ret pe_bl))
  pss_nil)))
 .nil)))))
 (pss_one (ps_ret pe_bl))))), fun ds R h => ?_⟩
  obtain ⟨f, rfl, hR⟩ := h
  walk_at "start"
  have cl := T.l_NumberSet; have x1 := T.x_NumberSet_since; have x2 := T.x_NumberSet_period; have x3 := T.x_NumberSet_firsts; have x4 := T.x_NumberSet_later
  refine run_seq (run_asg ?_)
  walk_at "w"
  refine ⟨fun i ρ' => ∃ s2 s3 s4 s5 s6, ρ' = [.d (.obj a.C_NumberSet (nsF f)), .d (.lst wrongL), s2, s3, s4, s5, s6, .no, .no], ⟨_, _, _, _, _, rfl⟩, fun i x ρ' hx hw => ?_, fun ρ' hw => ?_⟩
  · obtain ⟨s2, s3, s4, s5, s6, rfl⟩ := hw
    obtain ⟨x0, x1, x2, x3, k, w, C, fs, rfl, sw, hS, hC⟩ := wrong_ok a x (List.mem_of_getElem? hx)
    walk_at "w"
    refine run_try (RE := fun C' fl ρ' => C' = C ∧ fl = fs ∧ ρ' = [.d (.obj a.C_NumberSet (nsF f)), .d (.lst wrongL), .d (.tup [x0, x1, x2, x3]), .d (.str k), .d w, s5, s6, .no, .no]) (fun W => ?_) fun C' fl ρ' h => ?_
    · walk_at "w"
      exact ⟨fun C' fl => C' = C ∧ fl = fs, hS _ _ ⟨rfl, rfl⟩, fun C' fl h => ⟨h.1, h.2, rfl⟩⟩
    · obtain ⟨rfl, rfl, rfl⟩ := h
      rcases hC with ⟨rfl, rfl, rfl⟩ | ⟨rfl, rfl, rfl⟩
      · refine ⟨true, T.xm_BadNumber_BadNumber, fun _ ea ed => ?_, fun z => (nomatch z)⟩
        dsimp only [onS, List.set]
        walk_at "w"
        rw [decide_eq_true rfl]
        refine ⟨fun z => (nomatch z), fun _ => ?_⟩
        walk_at "w"
        · exact sw
        walk_at "w"
        · exact sw
        generalize shows w = tx
        refine o2_neS ?_
        rw [decide_eq_true rfl]
        walk_at "w"
        exact ⟨_, _, _, _, _, rfl⟩
      · refine ⟨false, T.xm_BadMembers_BadNumber, fun z => (nomatch z), fun _ => ⟨true, T.xm_BadMembers_BadMembers, fun _ ea ed => ?_, fun z => (nomatch z)⟩⟩
        dsimp only [onS, List.set]
        walk_at "w"
        rw [decide_eq_true rfl]
        refine ⟨fun z => (nomatch z), fun _ => ?_⟩
        walk_at "w"
        · exact sw
        walk_at "w"
        · exact sw
        generalize shows w = tx
        refine o2_neS ?_
        rw [decide_eq_true rfl]
        walk_at "w"
        exact ⟨_, _, _, _, _, rfl⟩
  · obtain ⟨s2, s3, s4, s5, s6, rfl⟩ := hw
    walk_at "w"
    refine ⟨fun i ρ' => ∃ s2 s3 s4 s5 s6 s7 s8, ρ' = [.d (.obj a.C_NumberSet (nsF f)), .d (.lst wrongL), s2, s3, s4, s5, s6, s7, s8], ⟨_, _, _, _, _, _, _, rfl⟩, fun i x ρ' hx hw => ?_, fun ρ' hw => ?_⟩
    · obtain ⟨s2, s3, s4, s5, s6, s7, s8, rfl⟩ := hw
      obtain ⟨hi, rfl⟩ := rng0_get hx
      have hi2 : i < 3 := hi
      have hbad : ∃ z : Int, atI [Dat.int 201, .int (-1), .int (10 ^ Int.toNat 40 + 1)] (i : Int) = some (.int z) ∧ z.natAbs < 10 ^ 45 ∧ (i = 0 → isI (.int z) 0 200 = false) ∧ (i ≠ 0 → isI (.int z) 0 (10 ^ 40) = false) := by
        have : i = 0 ∨ i = 1 ∨ i = 2 := by omega
        rcases this with rfl | rfl | rfl
        · exact ⟨201, rfl, by decide, fun _ => by decide, fun z => absurd rfl z⟩
        · exact ⟨-1, rfl, by decide, fun z => absurd z (by decide), fun _ => by decide⟩
        · exact ⟨10 ^ Int.toNat 40 + 1, rfl, by decide, fun z => absurd z (by decide), fun _ => by decide⟩
      obtain ⟨z, hz, hz1, hz2, hz3⟩ := hbad
      have sw := shw_i hz1
      walk_at "w"
      refine run_try (RE := fun C' fl ρ' => C' = a.C_BadNumber ∧ fl = ([(("thing" : Str), Dat.int z)] : List (Str × Dat)) ∧ ρ' = [.d (.obj a.C_NumberSet (nsF f)), .d (.lst wrongL), s2, s3, s4, s5, s6, .d (.int (i : Int)), .d (.int z)]) (fun W => ?_) fun C' fl ρ' h => ?_
      · walk_at "w"
        refine BV.c_dec (fun h => ?_) fun h => ?_
        · walk_at "w"
          refine ⟨rfl, ?_⟩
          walk_at "w"
          exact ⟨fun C' fl => C' = a.C_BadNumber ∧ fl = ([(("thing" : Str), Dat.int z)] : List (Str × Dat)), ⟨f, _, rfl, .inl ⟨_, rfl⟩, hz2 (by omega), rfl, rfl⟩, fun C' fl h => ⟨h.1, h.2, rfl⟩⟩
        · walk_at "w"
          refine BV.c_dec (fun h => ?_) fun h => ?_
          · walk_at "w"
            refine ⟨rfl, ?_⟩
            walk_at "w"
            exact ⟨fun C' fl => C' = a.C_BadNumber ∧ fl = ([(("thing" : Str), Dat.int z)] : List (Str × Dat)), ⟨f, _, rfl, .inl ⟨_, rfl⟩, hz3 (by omega), rfl, rfl⟩, fun C' fl h => ⟨h.1, h.2, rfl⟩⟩
          · walk_at "w"
            refine o2_inX ⟨fun C' fl => C' = a.C_BadNumber ∧ fl = ([(("thing" : Str), Dat.int z)] : List (Str × Dat)), ⟨f, _, rfl, .inl ⟨_, rfl⟩, hz3 (by omega), rfl, rfl⟩, fun C' fl h => ⟨h.1, h.2, rfl⟩⟩
      · obtain ⟨rfl, rfl, rfl⟩ := h
        refine ⟨true, T.xm_BadNumber_BadNumber, fun _ ea ed => ?_, fun z => (nomatch z)⟩
        dsimp only [onS, List.set]
        walk_at "w"
        · exact sw
        walk_at "w"
        · exact sw
        generalize shows (.int z) = tx
        refine o2_neS ?_
        rw [decide_eq_true rfl]
        refine ⟨_, rfl, fun z => (nomatch z), fun _ => run_next ?_⟩
        exact ⟨_, _, _, _, _, _, _, rfl⟩
    · obtain ⟨s2, s3, s4, s5, s6, s7, s8, rfl⟩ := hw
      walk_at "w"
      exact hR

end

section
variable {P : Program} {wd : World} {K : PySem.W.Frag} {mg : Str → Option Value} {base : Heap} {a : Ad}
theorem asc_snoc {l : List Nat} {n : Nat} (h : Asc l n) : Asc (l ++ [n]) (n + 1) :=
  ⟨List.pairwise_append.mpr ⟨h.1, List.pairwise_singleton _ _, fun x hx y hy => by rw [List.mem_singleton] at hy; rw [hy]; exact h.2 x hx⟩, fun m hm => by
    rcases List.mem_append.mp hm with z | z
    · have := h.2 m z; omega
    · rw [List.mem_singleton] at z; omega⟩
theorem asc_up {l : List Nat} {a b : Nat} (h : Asc l a) (hb : a ≤ b) : Asc l b := ⟨h.1, fun n hn => Nat.lt_of_lt_of_le (h.2 n hn) hb⟩
theorem lg {n : Nat} (h : n ≤ 10 ^ 40) : (n : Int).natAbs.log2 < 1920 := by
  rw [Int.natAbs_natCast]
  by_cases h0 : n = 0
  · rw [h0]; decide
  · exact (Nat.log2_lt h0).mpr (Nat.lt_of_le_of_lt h (by decide))
theorem cnt_le (q : Nat → Bool) (n : Nat) : cnt q n ≤ n := by
  unfold cnt mem
  exact Nat.le_trans (List.length_filter_le _ _) (by rw [List.length_range]; exact Nat.le_refl _)
theorem shw_nats {l : List Nat} (h : ∀ n ∈ l, n < 65536) (hl : l.length ≤ 2500) : Shw (natsD l) := by
  refine shw_of ?_ ?_ ?_
  · unfold natsD
    simp only [nice]
    exact niceL_nats fun n hn => Nat.lt_of_lt_of_le (h n hn) (by decide)
  · have e : toP (natsD l) = .tuple (l.map fun n : Nat => PyData.int (n : Int)) := by
      show PyData.tuple (toPs (l.map natD)) = _
      rw [toPs_nats]
    rw [e]
    simp only [PyData.depth, dep_nats]
    decide
  · have e : toP (natsD l) = .tuple (l.map fun n : Nat => PyData.int (n : Int)) := by
      show PyData.tuple (toPs (l.map natD)) = _
      rw [toPs_nats]
    rw [e]
    have := weight_nats (B := 16) (by decide) (fun n hn => h n hn)
    simp only [PyData.weight]
    omega
theorem far_nat (z : Int) : ∃ n : Nat, z.fmod (10 ^ Int.toNat 40 + 1) = (n : Int) ∧ n ≤ 10 ^ 40 := by
  have e : ((10 : Int) ^ Int.toNat 40 + 1) = ((10 ^ 40 + 1 : Nat) : Int) := by decide
  rw [e]
  have h3 := Int.fmod_nonneg_of_pos z (b := ((10 ^ 40 + 1 : Nat) : Int)) (by decide)
  have h4 := Int.fmod_lt_of_pos z (b := ((10 ^ 40 + 1 : Nat) : Int)) (by decide)
  refine ⟨(z.fmod ((10 ^ 40 + 1 : Nat) : Int)).toNat, (Int.toNat_of_nonneg h3).symm, ?_⟩
  have h5 : ((z.fmod ((10 ^ 40 + 1 : Nat) : Int)).toNat : Int) < ((10 ^ 40 + 1 : Nat) : Int) := by rw [Int.toNat_of_nonneg h3]; exact h4
  have h6 := Int.ofNat_lt.mp h5
  exact Nat.le_of_lt_succ h6
theorem asked_ok (i p far e : Nat) (h1 : i ≤ 30) (h2 : p ≤ 9) (h3 : far ≤ 10 ^ 40) (h4 : e ≤ 60) : ∀ x ∈ [Dat.int 0, Dat.int 1, natD i, Dat.int ((i : Int) + 1), Dat.int (max 0 ((i : Int) - 1)), Dat.int ((i : Int) + (p : Int)), natD e, natD far, Dat.int (10 ^ Int.toNat 40)], ∃ n : Nat, x = natD n ∧ n ≤ 10 ^ 40 := fun x hx => by
  have big : 1000 ≤ 10 ^ 40 := by decide
  simp only [List.mem_cons, List.not_mem_nil, or_false] at hx
  have mk : ∀ z : Int, 0 ≤ z → z ≤ 1000 → ∃ n : Nat, Dat.int z = natD n ∧ n ≤ 10 ^ 40 := fun z z0 z1 => ⟨z.toNat, by unfold natD; rw [Int.toNat_of_nonneg z0], by omega⟩
  rcases hx with rfl | rfl | rfl | rfl | rfl | rfl | rfl | rfl | rfl
  · exact mk _ (by omega) (by omega)
  · exact mk _ (by omega) (by omega)
  · exact mk _ (by omega) (by omega)
  · exact mk _ (by omega) (by omega)
  · exact mk _ (by omega) (by omega)
  · exact mk _ (by omega) (by omega)
  · exact mk _ (by omega) (by omega)
  · exact ⟨far, rfl, h3⟩
  · exact ⟨10 ^ 40, rfl, Nat.le_refl _⟩
def S_once : List Dat → (Dat → Prop) → Prop := fun ds R => ∃ (ns : List Int) (lap : Nat), ds = [.scr ns, .int (lap : Int)] ∧ ns.length ≤ 63 ∧ (∀ z ∈ ns, Builtin.Int.intBits z ≤ 1048576) ∧ lap ≤ 2 ∧ R (.bl true)
theorem ok__law_once (T : Tx P K mg a) : FnG P wd K mg base CX0 7 a.f__law_once a.d__law_once ["script", "lap"] (spF K S_once) :=
  okG T.F__law_once sc__law_once (fun ds R h => by obtain ⟨ns, lap, rfl, hns, hb, hlap, hR⟩ := h; rfl) fun cdv A outer s H E hG hr => by
  refine ⟨_, (pss_cons (ps_set (i := 2) sc__law_once.nd rfl (Or.inr rfl) (pe_call (ok__law_source T) (hr.mono (by decide)) (by rfl) T.g__law_source T.k__law_source T.b__law_source .nil pass0 (pa_cons (pv 0) (pa_cons (pe_op op_mul pe_int (pv 1)) pa_nil))))
 (pss_cons (ps_set (i := 3) sc__law_once.nd rfl (Or.inl rfl) (pe_call (ok__law_pick T) (hr.mono (by decide)) (by rfl) T.g__law_pick T.k__law_pick T.b__law_pick .nil pass0 (pa_cons (pv 2) (pa_cons pe_int pa_nil))))
 (pss_cons (ps_set (i := 4) sc__law_once.nd rfl (Or.inl rfl) (pe_op op_add pe_int (pe_call (ok__law_pick T) (hr.mono (by decide)) (by rfl) T.g__law_pick T.k__law_pick T.b__law_pick .nil pass0 (pa_cons (pv 2) (pa_cons pe_int pa_nil)))))
 (pss_cons (ps_set (i := 5) sc__law_once.nd rfl (Or.inl rfl) (pe_callTy (kTupOf K rfl) (by rfl) T.n_tuple (by decide +kernel) (pa_cons (pe_lc (own := [("k", 17)]) rfl sc__law_once.nd (pi_range1 rfl T.n_range (pa_cons (pv 3) pa_nil)) (blkOk_by (own := [("k", 17)]) (N := N__law_once) (sc := defScope s__law_once) (by decide +kernel)) (fun _ _ _ _ _ => (pg_name (i := 17) sc__law_once.nd rfl (Or.inl rfl))) (fun _ _ _ _ _ => (pts_one (pt_cmpR op_eq (pe_call (ok__law_pick T) (hr.mono (by decide)) (by rfl) T.g__law_pick T.k__law_pick T.b__law_pick .nil pass0 (pa_cons (pv 2) (pa_cons pe_int pa_nil))) pe_int (nomark _)))) (fun _ _ _ _ _ => (pv 17))) pa_nil)))
 (pss_cons (ps_set (i := 6) sc__law_once.nd rfl (Or.inl rfl) (pe_callTy (kTupOf K rfl) (by rfl) T.n_tuple (by decide +kernel) (pa_cons (pe_lc (own := [("k", 17)]) rfl sc__law_once.nd (pi_range1 rfl T.n_range (pa_cons (pv 4) pa_nil)) (blkOk_by (own := [("k", 17)]) (N := N__law_once) (sc := defScope s__law_once) (by decide +kernel)) (fun _ _ _ _ _ => (pg_name (i := 17) sc__law_once.nd rfl (Or.inl rfl))) (fun _ _ _ _ _ => (pts_one (pt_cmpR op_eq (pe_call (ok__law_pick T) (hr.mono (by decide)) (by rfl) T.g__law_pick T.k__law_pick T.b__law_pick .nil pass0 (pa_cons (pv 2) (pa_cons pe_int pa_nil))) pe_int (nomark _)))) (fun _ _ _ _ _ => (pv 17))) pa_nil)))
 (pss_cons (ps_set (i := 7) sc__law_once.nd rfl (Or.inl rfl) (pe_call (ok__law_pick T) (hr.mono (by decide)) (by rfl) T.g__law_pick T.k__law_pick T.b__law_pick .nil pass0 (pa_cons (pv 2) (pa_cons pe_int pa_nil))))
 (pss_cons (ps_if (pt_cmpR op_eq (pv 7) pe_int (nomark _))
  (pss_one (ps_set (i := 6) sc__law_once.nd rfl (Or.inl rfl) (pe_tup pa_nil)))
  (pss_one (ps_if (pt_cmpR op_eq (pv 7) pe_int (nomark _))
  (pss_one (ps_set (i := 6) sc__law_once.nd rfl (Or.inl rfl) (pe_callTy (kTupOf K rfl) (by rfl) T.n_tuple (by decide +kernel) (pa_cons (pe_listRg rfl (by rfl) T.n_list (prg_1 (by rfl) T.n_range (pv 4))) pa_nil))))
  pss_nil)))
 (pss_cons (ps_set (i := 8) sc__law_once.nd rfl (Or.inr rfl) (pe_tup (pa_cons (pv 3) (pa_cons (pv 4) (pa_cons (pv 5) (pa_cons (pv 6) pa_nil))))))
 (pss_cons (ps_set (i := 9) sc__law_once.nd rfl (Or.inl rfl) (pe_make T.m_NumberSet (ok_NumberSetu_initu T) (hr.mono (by decide)) (by rfl) T.g_NumberSet T.b_NumberSetu_initu .nil pass0 (pa_cons (pv 3) (pa_cons (pv 4) (pa_cons (pv 5) (pa_cons (pv 6) pa_nil))))))
 (pss_cons (ps_setLc (i := 10) (own := [("k", 17)]) rfl sc__law_once.nd rfl rfl (sw_true rfl rfl rfl (by decide +kernel)) (pi_range1 rfl T.n_range (pa_cons (pe_op op_add (pv 3) (pe_op op_mul pe_int (pv 4))) pa_nil)) (blkOk_by (own := [("k", 17)]) (N := N__law_once) (sc := defScope s__law_once) (by decide +kernel)) (fun _ _ _ _ _ => (pg_name (i := 17) sc__law_once.nd rfl (Or.inl rfl))) (fun _ _ _ _ _ => (pts_one (pt_val (pe_call (ok__law_inside T) (hr.mono (by decide)) (by rfl) T.g__law_inside T.k__law_inside T.b__law_inside .nil pass0 (pa_cons (pv 8) (pa_cons (pv 17) pa_nil)))))) (fun _ _ _ _ _ => (pv 17)))
 (pss_cons (ps_if (pt_cmpR op_ne (pe_callB call_repr_ (by rfl) T.n_repr (by decide +kernel) (pa_cons (pe_mthS0 (pv 9) T.l_NumberSet T.h_NumberSet_least (fnR_of (ok_NumberSet_least T) T.b_NumberSet_least) (hr.mono (by decide)) (passS0 (E := fun _ => E0))) pa_nil)) (pe_callB call_repr_ (by rfl) T.n_repr (by decide +kernel) (pa_cons (pe_ifExp (pt_tr (pv 10)) (pe_ix (kIxL K rfl) (pv 10) pe_int (fun _ _ => rfl)) pe_non) pa_nil)) (nomark _))
  (pss_one (ps_ret pe_bl))
  pss_nil)
 (pss_cons (ps_set (i := 11) sc__law_once.nd rfl (Or.inl rfl) (pv 3))
 (pss_cons (ps_while PassesOwn.never (PW.pt (pw_and (pt_cmpR op_gt (pv 11) pe_int (nomark _)) (pw_and1 (pt_val (pe_call (ok__law_inside T) (hr.mono (by decide)) (by rfl) T.g__law_inside T.k__law_inside T.b__law_inside .nil pass0 (pa_cons (pv 8) (pa_cons (pe_op op_sub (pv 11) pe_int) pa_nil)))))))
  (pss_one (ps_set (i := 11) sc__law_once.nd rfl (Or.inl rfl) (pe_op op_sub (pv 11) pe_int))))
 (pss_cons (ps_if (pt_cmpR op_ne (pe_callB call_repr_ (by rfl) T.n_repr (by decide +kernel) (pa_cons (pe_mthS0 (pv 9) T.l_NumberSet T.h_NumberSet_lasting (fnR_of (ok_NumberSet_lasting T) T.b_NumberSet_lasting) (hr.mono (by decide)) (passS0 (E := fun _ => E0))) pa_nil)) (pe_callB call_repr_ (by rfl) T.n_repr (by decide +kernel) (pa_cons (pe_ifExp (pt_cmpR op_eq (pe_callB (kLen K rfl) (by rfl) T.n_len (by decide +kernel) (pa_cons (pv 6) pa_nil)) (pv 4) (nomark _)) (pv 11) pe_non) pa_nil)) (nomark _))
  (pss_one (ps_ret pe_bl))
  pss_nil)
 (pss_cons (ps_set (i := 12) sc__law_once.nd rfl (Or.inl rfl) (pv 3))
 (pss_cons (ps_while PassesOwn.never (PW.pt (pw_and (pt_cmpR op_gt (pv 12) pe_int (nomark _)) (pw_and1 (pt_not (pt_val (pe_call (ok__law_inside T) (hr.mono (by decide)) (by rfl) T.g__law_inside T.k__law_inside T.b__law_inside .nil pass0 (pa_cons (pv 8) (pa_cons (pe_op op_sub (pv 12) pe_int) pa_nil))))))))
  (pss_one (ps_set (i := 12) sc__law_once.nd rfl (Or.inl rfl) (pe_op op_sub (pv 12) pe_int))))
 (pss_cons (ps_if (pt_cmpR op_ne (pe_callB call_repr_ (by rfl) T.n_repr (by decide +kernel) (pa_cons (pe_mthS0 (pv 9) T.l_NumberSet T.h_NumberSet_gone (fnR_of (ok_NumberSet_gone T) T.b_NumberSet_gone) (hr.mono (by decide)) (passS0 (E := fun _ => E0))) pa_nil)) (pe_callB call_repr_ (by rfl) T.n_repr (by decide +kernel) (pa_cons (pe_ifExp (pt_tr (pv 6)) pe_non (pv 12)) pa_nil)) (nomark _))
  (pss_one (ps_ret pe_bl))
  pss_nil)
 (pss_cons (ps_set (i := 13) sc__law_once.nd rfl (Or.inl rfl) (pe_ix (kIxL K rfl) (pe_lst (pa_cons pe_int (pa_cons pe_int (pa_cons pe_int (pa_cons pe_int (pa_cons pe_int pa_nil)))))) (pe_call (ok__law_pick T) (hr.mono (by decide)) (by rfl) T.g__law_pick T.k__law_pick T.b__law_pick .nil pass0 (pa_cons (pv 2) (pa_cons pe_int pa_nil))) (fun _ _ => rfl)))
 (pss_cons (ps_set (i := 14) sc__law_once.nd rfl (Or.inl rfl) (pe_lst pa_nil))
 (pss_cons (ps_set (i := 15) sc__law_once.nd rfl (Or.inl rfl) pe_int)
 (pss_cons (ps_while PassesOwn.never (PW.pt (pw_and (pt_cmpR op_lt (pe_callB (kLen K rfl) (by rfl) T.n_len (by decide +kernel) (pa_cons (pv 14) pa_nil)) (pv 13) (nomark _)) (pw_and1 (pt_cmpR op_lt (pv 15) (pe_op op_add (pv 3) (pe_op op_mul pe_int (pv 4))) (nomark _)))))
  (pss_cons (ps_if (pt_val (pe_call (ok__law_inside T) (hr.mono (by decide)) (by rfl) T.g__law_inside T.k__law_inside T.b__law_inside .nil pass0 (pa_cons (pv 8) (pa_cons (pv 15) pa_nil))))
  (pss_one (ps_expr (pe_bm PySem.F.plainAttrs_list PySem.F.slot_list_append PySem.F.type_list_append mt_append (pv 14) (pa_cons (pv 15) pa_nil))))
  pss_nil)
 (pss_one (ps_set (i := 15) sc__law_once.nd rfl (Or.inl rfl) (pe_op op_add (pv 15) pe_int)))))
 (pss_cons (ps_if (pt_cmpR op_ne (pe_callB (kReprD K rfl hG (units65 hr)) (by rfl) T.n_repr (by decide +kernel) (pa_cons (pe_mthS (pv 9) T.l_NumberSet T.h_NumberSet_listed (fnR_of (ok_NumberSet_listed T) T.b_NumberSet_listed) (hr.mono (by decide)) (passS0 (E := fun _ => E0)) (pa_cons (pv 13) pa_nil)) pa_nil)) (pe_callB (kReprD K rfl hG (units65 hr)) (by rfl) T.n_repr (by decide +kernel) (pa_cons (pe_callTy (kTupOf K rfl) (by rfl) T.n_tuple (by decide +kernel) (pa_cons (pv 14) pa_nil)) pa_nil)) (nomark _))
  (pss_one (ps_ret pe_bl))
  pss_nil)
 (pss_cons (ps_set (i := 16) sc__law_once.nd rfl (Or.inl rfl) (pe_op op_modN (pe_callTy call_int_ (by rfl) T.n_int (by decide +kernel) (pa_cons (pe_ifExp (pt_cmpR op_gt (pe_callB (kLen K rfl) (by rfl) T.n_len (by decide +kernel) (pa_cons (pv 0) pa_nil)) pe_int (nomark _)) (pe_ix (kIxL K rfl) (pv 0) pe_int (fun _ _ => rfl)) pe_int) pa_nil)) (pe_op op_add (pe_op op_pow pe_int pe_int) pe_int)))
 (pss_cons (ps_for PassesOwn.never rfl (pi_list (pe_lst (pa_cons pe_int (pa_cons pe_int (pa_cons (pv 3) (pa_cons (pe_op op_add (pv 3) pe_int) (pa_cons (pe_callB (call_max2_ rfl) (by rfl) T.n_max (by decide +kernel) (pa_cons pe_int (pa_cons (pe_op op_sub (pv 3) pe_int) pa_nil))) (pa_cons (pe_op op_add (pv 3) (pv 4)) (pa_cons (pe_call (ok__law_pick T) (hr.mono (by decide)) (by rfl) T.g__law_pick T.k__law_pick T.b__law_pick .nil pass0 (pa_cons (pv 2) (pa_cons pe_int pa_nil))) (pa_cons (pv 16) (pa_cons (pe_op op_pow pe_int pe_int) pa_nil))))))))))) (pg_name (i := 15) sc__law_once.nd rfl (Or.inl rfl))
  (pss_one (ps_if (pt_cmpR op_ne (pe_callB call_repr_ (by rfl) T.n_repr (by decide +kernel) (pa_cons (pe_mthS (pv 9) T.l_NumberSet T.h_NumberSet_counted (fnR_of (ok_NumberSet_counted T) T.b_NumberSet_counted) (hr.mono (by decide)) (passS0 (E := fun _ => E0)) (pa_cons (pv 15) pa_nil)) pa_nil)) (pe_callB call_repr_ (by rfl) T.n_repr (by decide +kernel) (pa_cons (pe_call (ok__law_below T) (hr.mono (by decide)) (by rfl) T.g__law_below T.k__law_below T.b__law_below .nil pass0 (pa_cons (pv 8) (pa_cons (pv 15) pa_nil))) pa_nil)) (nomark _))
  (pss_one (ps_ret pe_bl))
  pss_nil)))
 (pss_one (ps_ret (pe_callG hG (ok__law_refusals T) (hr.mono (by decide)) (by rfl) T.g__law_refusals T.k__law_refusals T.b__law_refusals pass0 (pa_cons (pv 9) pa_nil)))))))))))))))))))))))))))), fun ds R h => ?_⟩
  obtain ⟨ns, lap, rfl, hns, hb, hlap, hR⟩ := h
  walk_at "start"
  have cl := T.l_NumberSet; have x1 := T.x_NumberSet_since; have x2 := T.x_NumberSet_period; have x3 := T.x_NumberSet_firsts; have x4 := T.x_NumberSet_later
  walk_at "w"
  refine ⟨⟨ns, 8 * lap, by rw [show (8 : Int) * (lap : Int) = ((8 * lap : Nat) : Int) by omega], hns, hb, by omega⟩, fun s0 => ?_⟩
  walk_at "w"
  refine ⟨_, rfl, by omega, by omega, fun i hi => ?_⟩
  walk_at "w"
  refine ⟨_, rfl, by omega, by omega, fun e2 he2 => ?_⟩
  have ep : (1 : Int) + (e2 : Int) = ((1 + e2 : Nat) : Int) := by omega
  walk_at "w"
  rw [ep]
  obtain ⟨p, hpe⟩ : ∃ p, p = 1 + e2 := ⟨_, rfl⟩
  rw [← hpe]
  have hp0 : 0 < p := by omega
  have hp9 : p ≤ 9 := by omega
  have hi30 : i ≤ 30 := by omega
  refine g_lc (np1 (by rfl) fun _ => rfl) ?_
  walk_at "w"
  refine ⟨by rw [rngI_len]; omega, fun j acc => ∃ l : List Nat, acc = l.map natD ∧ Asc l j, ⟨[], rfl, List.Pairwise.nil, by simp⟩, fun j x acc hx hw _ => ?_, fun acc _ hw => ?_⟩
  · obtain ⟨l, rfl, hl⟩ := hw
    obtain ⟨hj, rfl⟩ := rng0_get hx
    dsimp only [wipeS, List.set]
    walk_at "w"
    refine ⟨_, rfl, by omega, by omega, fun e he => ?_⟩
    walk_at "w"
    refine ⟨fun h => ?_, fun h => ⟨l, rfl, asc_up hl (by omega)⟩⟩
    walk_at "w"
    exact ⟨l ++ [j], by rw [List.map_append]; rfl, asc_snoc hl⟩
  obtain ⟨l1, rfl, hl1⟩ := hw
  rw [rngI_len, Int.toNat_natCast] at hl1
  walk_at "w"
  refine g_lc (np1 (by rfl) fun _ => rfl) ?_
  walk_at "w"
  refine ⟨by rw [rngI_len]; omega, fun j acc => ∃ l : List Nat, acc = l.map natD ∧ Asc l j, ⟨[], rfl, List.Pairwise.nil, by simp⟩, fun j x acc hx hw _ => ?_, fun acc _ hw => ?_⟩
  · obtain ⟨l, rfl, hl⟩ := hw
    obtain ⟨hj, rfl⟩ := rng0_get hx
    dsimp only [wipeS, List.set]
    walk_at "w"
    refine ⟨_, rfl, by omega, by omega, fun e he => ?_⟩
    walk_at "w"
    refine ⟨fun h => ?_, fun h => ⟨l, rfl, asc_up hl (by omega)⟩⟩
    walk_at "w"
    exact ⟨l ++ [j], by rw [List.map_append]; rfl, asc_snoc hl⟩
  obtain ⟨l2, rfl, hl2⟩ := hw
  rw [rngI_len, Int.toNat_natCast] at hl2
  walk_at "w"
  refine ⟨_, rfl, by omega, by omega, fun e3 he3 => ?_⟩
  refine run_seq (run_cut (fun ρ' => ∃ l2 : List Nat, Asc l2 p ∧ ρ' = [.d (.scr ns), .d (.int (lap : Int)), .src s0, .d (natD i), .d (natD p), .d (natsD l1), .d (natsD l2), .d (.int (e3 : Int)), .no, .no, .no, .no, .no, .no, .no, .no, .no, .no]) ?_ ?_)
  · walk_at "w"
    refine BV.c_dec (fun h => ?_) fun h => ?_
    · walk_at "w"
      exact ⟨[], ⟨List.Pairwise.nil, by simp⟩, rfl⟩
    · walk_at "w"
      refine BV.c_dec (fun h => ?_) fun h => ?_
      · walk_at "w"
        refine ⟨L2.RgOk.of_le (by omega) (by omega) (by omega) (by omega), ?_⟩
        walk_at "w"
        refine ⟨List.range p, ⟨List.pairwise_lt_range, fun m hm => List.mem_range.mp hm⟩, ?_⟩
        have er : rngI 0 ((p : Int) - 0).toNat = (List.range p).map natD := by
          unfold rngI
          rw [show ((p : Int) - 0).toNat = p by omega]
          exact List.map_congr_left fun n _ => by rw [Int.zero_add]
        rw [er]
        rfl
      · walk_at "w"
        exact ⟨l2, hl2, rfl⟩
  rintro ρ' ⟨l3, hl3, rfl⟩
  obtain ⟨f, hf⟩ : ∃ f : Form, f = (i, p, l1, l3) := ⟨_, rfl⟩
  have f1 : f.1 = i := by rw [hf]
  have f2 : f.2.1 = p := by rw [hf]
  have f3 : f.2.2.1 = l1 := by rw [hf]
  have f4 : f.2.2.2 = l3 := by rw [hf]
  have ok : FOk f := ⟨by omega, by omega, by omega, by rw [f3, f1]; exact hl1, by rw [f4, f2]; exact hl3⟩
  have rt := rt_of ok
  have h2 := ok.h2
  obtain ⟨kf, hkf⟩ : ∃ kf : Form, kf = keptF f := ⟨_, rfl⟩
  have okK : FOk kf := by rw [hkf]; exact exp_ok ok
  have rtK := rt_of okK
  have insK : inside kf = inside f := by rw [hkf]; exact inside_kept h2
  have eform : Dat.tup [natD i, natD p, natsD l1, natsD l3] = formD f := by rw [hf]
  obtain ⟨N, hN⟩ : ∃ N, N = f.1 + 2 * f.2.1 := ⟨_, rfl⟩
  refine run_seq (run_cut (fun ρ' => ρ' = [.d (.scr ns), .d (.int (lap : Int)), .src s0, .d (natD i), .d (natD p), .d (natsD l1), .d (natsD l3), .d (.int (e3 : Int)), .d (formD f), .no, .no, .no, .no, .no, .no, .no, .no, .no]) ?_ ?_)
  · walk_at "w"
    rw [← eform]
    rfl
  rintro ρ' rfl
  refine run_seq (run_cut (fun ρ' => ρ' = [.d (.scr ns), .d (.int (lap : Int)), .src s0, .d (natD i), .d (natD p), .d (natsD l1), .d (natsD l3), .d (.int (e3 : Int)), .d (formD f), .d (.obj a.C_NumberSet (nsF kf)), .no, .no, .no, .no, .no, .no, .no, .no]) ?_ ?_)
  · walk_at "w"
    refine ⟨f, natsD l1, natsD l3, by rw [f1, f2], .inl (by rw [f3]), .inl (by rw [f4]), ok, ?_⟩
    walk_at "w"
    rw [hkf]
    rfl
  rintro ρ' rfl
  have mN : ∀ n, (mem (inside f) n).length ≤ n := fun n => cnt_le _ n
  refine run_seq (run_cut (fun ρ' => ρ' = [.d (.scr ns), .d (.int (lap : Int)), .src s0, .d (natD i), .d (natD p), .d (natsD l1), .d (natsD l3), .d (.int (e3 : Int)), .d (formD f), .d (.obj a.C_NumberSet (nsF kf)), .d (.lst ((mem (inside f) N).map natD)), .no, .no, .no, .no, .no, .no, .no]) ?_ ?_)
  · walk_at "w"
    refine g_lcSel (fun n : Nat => Dat.int (0 + (n : Int))) (fun n => inside f n) (np1 (by rfl) fun _ => rfl) ?_
    walk_at "w"
    have eN : ((i : Int) + 2 * (p : Int)).toNat = N := by omega
    refine ⟨List.range N, by rw [eN]; rfl, by rw [List.length_range]; omega, fun n hn => ?_, ?_⟩
    · have e0 : (0 : Int) + (n : Int) = (n : Int) := Int.zero_add _
      dsimp only [wipeS, List.set]
      walk_at "w"
      rw [e0]
      refine ⟨f, n, rfl, h2, ?_⟩
      walk_at "w"
      refine ⟨rfl, fun _ => ?_⟩
      walk_at "w"
      rfl
    rw [map0]
    walk_at "w"
    rfl
  rintro ρ' rfl
  refine run_seq (run_cut (fun ρ' => ρ' = [.d (.scr ns), .d (.int (lap : Int)), .src s0, .d (natD i), .d (natD p), .d (natsD l1), .d (natsD l3), .d (.int (e3 : Int)), .d (formD f), .d (.obj a.C_NumberSet (nsF kf)), .d (.lst ((mem (inside f) N).map natD)), .no, .no, .no, .no, .no, .no, .no]) ?_ ?_)
  · have hl := least_kept rt
    rw [← hkf, ← hN] at hl
    cases hm : mem (inside f) N with
    | nil =>
      rw [hm] at hl
      have hl : leastK kf = none := hl
      rw [List.map_nil]
      walk_at "w"
      refine ⟨rfl, ?_⟩
      walk_at "w"
      refine ⟨kf, rfl, ?_⟩
      rw [hl]
      unfold optD
      walk_at "w"
      rw [decide_eq_true rfl]
      refine ⟨fun z => (nomatch z), fun _ => ?_⟩
      walk_at "w"
      rfl
    | cons x r =>
      rw [hm] at hl
      have hl : leastK kf = some x := hl
      have hx : x < N := (mem_mem.mp (by rw [hm]; exact List.mem_cons_self)).1
      rw [List.map_cons]
      walk_at "w"
      refine ⟨rfl, ?_⟩
      walk_at "w"
      refine ⟨kf, rfl, ?_⟩
      rw [hl]
      unfold optD
      walk_at "w"
      · exact lg (Nat.le_trans (Nat.le_of_lt hx) (by omega))
      walk_at "w"
      · exact lg (Nat.le_trans (Nat.le_of_lt hx) (by omega))
      generalize sW (toString (x : Int)) = tx
      refine o2_neS ?_
      rw [decide_eq_true rfl]
      refine ⟨_, rfl, fun z => (nomatch z), fun _ => run_next ?_⟩
      rfl
  rintro ρ' rfl
  walk_at "w"
  refine run_cut (fun ρ' => ρ' = [.d (.scr ns), .d (.int (lap : Int)), .src s0, .d (natD i), .d (natD p), .d (natsD l1), .d (natsD l3), .d (.int (e3 : Int)), .d (formD f), .d (.obj a.C_NumberSet (nsF kf)), .d (.lst ((mem (inside f) N).map natD)), .d (natD (down (fun k => inside f k == true) i)), .no, .no, .no, .no, .no, .no]) ?_ ?_
  · refine run_while (fun m ρ' => ρ' = [.d (.scr ns), .d (.int (lap : Int)), .src s0, .d (natD i), .d (natD p), .d (natsD l1), .d (natsD l3), .d (.int (e3 : Int)), .d (formD f), .d (.obj a.C_NumberSet (nsF kf)), .d (.lst ((mem (inside f) N).map natD)), .d (natD m), .no, .no, .no, .no, .no, .no] ∧ m ≤ i ∧ down (fun k => inside f k == true) m = down (fun k => inside f k == true) i) i ⟨rfl, Nat.le_refl _, rfl⟩ fun m ρ' hw => ?_
    obtain ⟨rfl, hm, hb⟩ := hw
    walk_at "w"
    refine BV.c_dec (fun h0 => ?_) fun h0 => ?_
    · have h0 : 0 < m := by omega
      have a1 : (m : Int) - 1 = ((m - 1 : Nat) : Int) := by omega
      walk_at "w"
      refine ⟨f, m - 1, congrArg (fun z => [formD f, Dat.int z]) a1, h2, ?_⟩
      cases hin : inside f (m - 1) with
      | true =>
        walk_at "w"
        rw [a1]
        exact ⟨m - 1, by omega, rfl, by omega, by rw [← hb, down_step (p := fun k => inside f k == true) h0 (by simp [hin])]⟩
      | false =>
        rw [← hb, down_stop (p := fun k => inside f k == true) (n := m) (.inr (by simp [hin]))]
        walk_at "w"
        rfl
    · rw [← hb, down_stop (p := fun k => inside f k == true) (n := m) (.inl (by omega))]
      walk_at "w"
      rfl
  rintro ρ' rfl
  refine run_seq (run_cut (fun ρ' => ρ' = [.d (.scr ns), .d (.int (lap : Int)), .src s0, .d (natD i), .d (natD p), .d (natsD l1), .d (natsD l3), .d (.int (e3 : Int)), .d (formD f), .d (.obj a.C_NumberSet (nsF kf)), .d (.lst ((mem (inside f) N).map natD)), .d (natD (down (fun k => inside f k == true) i)), .no, .no, .no, .no, .no, .no]) ?_ ?_)
  · walk_at "w"
    refine ⟨rfl, ?_⟩
    walk_at "w"
    refine ⟨kf, rfl, ?_⟩
    have lk := lasts_true rtK
    have lf := lasts_true rt
    have lkf := kept_lasts h2 true
    rw [← hkf] at lkf
    have lens : (l3.map natD).length = l3.length := List.length_map _
    by_cases hl : l3.length = p
    · have hf4 : f.2.2.2.length = f.2.1 := by rw [f4, f2]; exact hl
      have hk : kf.2.2.2.length = kf.2.1 := lk.mpr (lkf.mpr (lf.mp hf4))
      have hd : down (fun k => inside f k == true) i = kf.1 := by
        have := kept_start h2 (lf.mp hf4)
        rw [← hkf, f1] at this
        exact this
      have hk1 : kf.1 ≤ 10 ^ 40 := Nat.le_trans okK.h1 (by decide)
      rw [if_pos hk, hd]
      walk_at "w"
      · exact lg hk1
      walk_at "w"
      · exact lg hk1
      generalize sW (toString (kf.1 : Int)) = tx
      refine o2_neS ?_
      rw [decide_eq_true rfl]
      refine ⟨_, rfl, fun z => (nomatch z), fun _ => run_next ?_⟩
      rfl
    · have hf4 : ¬ f.2.2.2.length = f.2.1 := by rw [f4, f2]; exact hl
      have hk : ¬ kf.2.2.2.length = kf.2.1 := fun z => hf4 (lf.mpr (lkf.mp (lk.mp z)))
      rw [if_neg hk]
      walk_at "w"
      rw [decide_eq_true rfl]
      refine ⟨fun z => (nomatch z), fun _ => ?_⟩
      walk_at "w"
      rfl
  rintro ρ' rfl
  walk_at "w"
  refine run_cut (fun ρ' => ρ' = [.d (.scr ns), .d (.int (lap : Int)), .src s0, .d (natD i), .d (natD p), .d (natsD l1), .d (natsD l3), .d (.int (e3 : Int)), .d (formD f), .d (.obj a.C_NumberSet (nsF kf)), .d (.lst ((mem (inside f) N).map natD)), .d (natD (down (fun k => inside f k == true) i)), .d (natD (down (fun k => inside f k == false) i)), .no, .no, .no, .no, .no]) ?_ ?_
  · refine run_while (fun m ρ' => ρ' = [.d (.scr ns), .d (.int (lap : Int)), .src s0, .d (natD i), .d (natD p), .d (natsD l1), .d (natsD l3), .d (.int (e3 : Int)), .d (formD f), .d (.obj a.C_NumberSet (nsF kf)), .d (.lst ((mem (inside f) N).map natD)), .d (natD (down (fun k => inside f k == true) i)), .d (natD m), .no, .no, .no, .no, .no] ∧ m ≤ i ∧ down (fun k => inside f k == false) m = down (fun k => inside f k == false) i) i ⟨rfl, Nat.le_refl _, rfl⟩ fun m ρ' hw => ?_
    obtain ⟨rfl, hm, hb⟩ := hw
    walk_at "w"
    refine BV.c_dec (fun h0 => ?_) fun h0 => ?_
    · have h0 : 0 < m := by omega
      have a1 : (m : Int) - 1 = ((m - 1 : Nat) : Int) := by omega
      walk_at "w"
      refine ⟨f, m - 1, congrArg (fun z => [formD f, Dat.int z]) a1, h2, ?_⟩
      cases hin : inside f (m - 1) with
      | false =>
        walk_at "w"
        rw [a1]
        exact ⟨m - 1, by omega, rfl, by omega, by rw [← hb, down_step (p := fun k => inside f k == false) h0 (by simp [hin])]⟩
      | true =>
        rw [← hb, down_stop (p := fun k => inside f k == false) (n := m) (.inr (by simp [hin]))]
        walk_at "w"
        rfl
    · rw [← hb, down_stop (p := fun k => inside f k == false) (n := m) (.inl (by omega))]
      walk_at "w"
      rfl
  rintro ρ' rfl
  refine run_seq (run_cut (fun ρ' => ρ' = [.d (.scr ns), .d (.int (lap : Int)), .src s0, .d (natD i), .d (natD p), .d (natsD l1), .d (natsD l3), .d (.int (e3 : Int)), .d (formD f), .d (.obj a.C_NumberSet (nsF kf)), .d (.lst ((mem (inside f) N).map natD)), .d (natD (down (fun k => inside f k == true) i)), .d (natD (down (fun k => inside f k == false) i)), .no, .no, .no, .no, .no]) ?_ ?_)
  · walk_at "w"
    refine ⟨rfl, ?_⟩
    walk_at "w"
    refine ⟨kf, rfl, ?_⟩
    have lk := lasts_false rtK
    have lf := lasts_false rt
    have lkf := kept_lasts h2 false
    rw [← hkf] at lkf
    rw [f4] at lf
    cases hl3 : l3 with
    | nil =>
      have hk : kf.2.2.2 = [] := lk.mpr (lkf.mpr (lf.mp hl3))
      have hd : down (fun k => inside f k == false) i = kf.1 := by
        have := kept_start h2 (lf.mp hl3)
        rw [← hkf, f1] at this
        exact this
      have hk1 : kf.1 ≤ 10 ^ 40 := Nat.le_trans okK.h1 (by decide)
      rw [if_pos hk, hd]
      unfold natsD
      rw [List.map_nil]
      walk_at "w"
      · exact lg hk1
      walk_at "w"
      · exact lg hk1
      generalize sW (toString (kf.1 : Int)) = tx
      refine o2_neS ?_
      rw [decide_eq_true rfl]
      refine ⟨_, rfl, fun z => (nomatch z), fun _ => run_next ?_⟩
      rfl
    | cons y r =>
      have hk : ¬ kf.2.2.2 = [] := fun z => by
        have := lf.mpr (lkf.mp (lk.mp z))
        rw [hl3] at this
        cases this
      rw [if_neg hk]
      unfold natsD
      rw [List.map_cons]
      walk_at "w"
      rw [decide_eq_true rfl]
      refine ⟨fun z => (nomatch z), fun _ => ?_⟩
      walk_at "w"
      rfl
  rintro ρ' rfl
  refine run_seq (run_cut (fun ρ' => ∃ many : Nat, many ≤ 200 ∧ ρ' = [.d (.scr ns), .d (.int (lap : Int)), .src s0, .d (natD i), .d (natD p), .d (natsD l1), .d (natsD l3), .d (.int (e3 : Int)), .d (formD f), .d (.obj a.C_NumberSet (nsF kf)), .d (.lst ((mem (inside f) N).map natD)), .d (natD (down (fun k => inside f k == true) i)), .d (natD (down (fun k => inside f k == false) i)), .d (natD many), .no, .no, .no, .no]) ?_ ?_)
  · walk_at "w"
    refine ⟨_, rfl, by omega, by omega, fun e4 he4 => ?_⟩
    obtain ⟨z, hz, hz1⟩ : ∃ z : Nat, atI [Dat.int 0, .int 1, .int 5, .int 40, .int 200] (e4 : Int) = some (natD z) ∧ z ≤ 200 := by
      have : e4 = 0 ∨ e4 = 1 ∨ e4 = 2 ∨ e4 = 3 ∨ e4 = 4 := by omega
      rcases this with rfl | rfl | rfl | rfl | rfl
      · exact ⟨0, rfl, by decide⟩
      · exact ⟨1, rfl, by decide⟩
      · exact ⟨5, rfl, by decide⟩
      · exact ⟨40, rfl, by decide⟩
      · exact ⟨200, rfl, by decide⟩
    refine o2_ixL hz ?_
    walk_at "w"
    exact ⟨z, hz1, rfl⟩
  rintro ρ' ⟨many, hmany, rfl⟩
  walk_at "w"
  refine run_cut (fun ρ' => ∃ n : Nat, n ≤ i + 200 * p ∧ (mem (inside f) n).length ≤ many ∧ Cut (inside f) many n ∧ ρ' = [.d (.scr ns), .d (.int (lap : Int)), .src s0, .d (natD i), .d (natD p), .d (natsD l1), .d (natsD l3), .d (.int (e3 : Int)), .d (formD f), .d (.obj a.C_NumberSet (nsF kf)), .d (.lst ((mem (inside f) N).map natD)), .d (natD (down (fun k => inside f k == true) i)), .d (natD (down (fun k => inside f k == false) i)), .d (natD many), .own ((mem (inside f) n).map natD), .d (natD n), .no, .no]) ?_ ?_
  · refine run_while (fun m ρ' => ∃ n : Nat, ρ' = [.d (.scr ns), .d (.int (lap : Int)), .src s0, .d (natD i), .d (natD p), .d (natsD l1), .d (natsD l3), .d (.int (e3 : Int)), .d (formD f), .d (.obj a.C_NumberSet (nsF kf)), .d (.lst ((mem (inside f) N).map natD)), .d (natD (down (fun k => inside f k == true) i)), .d (natD (down (fun k => inside f k == false) i)), .d (natD many), .own ((mem (inside f) n).map natD), .d (natD n), .no, .no] ∧ n ≤ i + 200 * p ∧ (mem (inside f) n).length ≤ many ∧ m = i + 200 * p - n) _ ⟨0, rfl, Nat.zero_le _, Nat.zero_le _, rfl⟩ fun m ρ' hw => ?_
    obtain ⟨n, rfl, hn, hml, rfl⟩ := hw
    have ll : ((mem (inside f) n).map natD).length = (mem (inside f) n).length := List.length_map _
    have ms := mem_succ (inside f) n
    walk_at "w"
    rw [ll]
    refine BV.c_dec (fun h0 => ?_) fun h0 => ?_
    · walk_at "w"
      refine BV.c_dec (fun h1 => ?_) fun h1 => ?_
      · walk_at "w"
        refine ⟨f, n, rfl, h2, ?_⟩
        cases hin : inside f n with
        | true =>
          rw [hin, if_pos rfl] at ms
          walk_at "w"
          refine ⟨_, by omega, n + 1, ?_, by omega, ?_, rfl⟩
          · rw [ms, List.map_append]
            rfl
          · rw [ms, List.length_append, List.length_singleton]
            omega
        | false =>
          rw [hin, if_neg Bool.false_ne_true, List.append_nil] at ms
          walk_at "w"
          refine ⟨_, by omega, n + 1, ?_, by omega, ?_, rfl⟩
          · rw [ms]
            rfl
          · rw [ms]
            exact hml
      · walk_at "w"
        have en : n = f.1 + 200 * f.2.1 := by omega
        refine ⟨n, hn, hml, ?_, rfl⟩
        by_cases hl : f.2.2.2 = []
        · exact .inr fun k hk => (lasts_false rt).mp hl k (by omega)
        · left
          have := mem_many rt hl 200
          rw [← en] at this
          omega
    · walk_at "w"
      exact ⟨n, hn, hml, .inl (by omega), rfl⟩
  rintro ρ' ⟨n, hn, hml, hcut, rfl⟩
  refine run_seq (run_cut (fun ρ' => ρ' = [.d (.scr ns), .d (.int (lap : Int)), .src s0, .d (natD i), .d (natD p), .d (natsD l1), .d (natsD l3), .d (.int (e3 : Int)), .d (formD f), .d (.obj a.C_NumberSet (nsF kf)), .d (.lst ((mem (inside f) N).map natD)), .d (natD (down (fun k => inside f k == true) i)), .d (natD (down (fun k => inside f k == false) i)), .d (natD many), .own ((mem (inside f) n).map natD), .d (natD n), .no, .no]) ?_ ?_)
  · have shM : Shw (natsD (mem (inside f) n)) := shw_nats (fun k hk => by have := (mem_mem.mp hk).1; omega) (by omega)
    walk_at "w"
    refine ⟨rfl, ?_⟩
    walk_at "w"
    refine ⟨kf, many, rfl, okK, hmany, fun s hs => ?_⟩
    rw [insK] at hs ⊢
    rw [hs.same hcut, List.take_of_length_le hml]
    walk_at "w"
    · exact shM
    walk_at "w"
    · exact shM
    generalize shows (natsD (mem (inside f) n)) = tx
    refine o2_neS ?_
    rw [decide_eq_true rfl]
    refine ⟨_, rfl, fun z => (nomatch z), fun _ => run_next ?_⟩
    rfl
  rintro ρ' rfl
  refine run_seq (run_cut (fun ρ' => ∃ far : Nat, far ≤ 10 ^ 40 ∧ ρ' = [.d (.scr ns), .d (.int (lap : Int)), .src s0, .d (natD i), .d (natD p), .d (natsD l1), .d (natsD l3), .d (.int (e3 : Int)), .d (formD f), .d (.obj a.C_NumberSet (nsF kf)), .d (.lst ((mem (inside f) N).map natD)), .d (natD (down (fun k => inside f k == true) i)), .d (natD (down (fun k => inside f k == false) i)), .d (natD many), .own ((mem (inside f) n).map natD), .d (natD n), .d (natD far), .no]) ?_ ?_)
  · walk_at "w"
    refine BV.c_dec (fun h => ?_) fun h => ?_
    · have hr0 : ns[1]? = some ns[1] := List.getElem?_eq_getElem (by omega)
      generalize ns[1] = z at hr0
      obtain ⟨m, hm, hm2⟩ := far_nat z
      walk_at "w"
      refine o2_ixScr (at_nat (i := 1) hr0) ?_
      walk_at "w"
      exact ⟨m, hm2, by rw [hm]; rfl⟩
    · obtain ⟨m, hm, hm2⟩ := far_nat 987654321
      walk_at "w"
      exact ⟨m, hm2, by rw [hm]; rfl⟩
  rintro ρ' ⟨far, hfar, rfl⟩
  walk_at "w"
  refine ⟨_, rfl, by omega, by omega, fun e6 he6 => ?_⟩
  walk_at "w"
  have hmem := asked_ok i p far e6 hi30 hp9 hfar (by omega)
  generalize [Dat.int 0, Dat.int 1, natD i, Dat.int ((i : Int) + 1), Dat.int (max 0 ((i : Int) - 1)), Dat.int ((i : Int) + (p : Int)), natD e6, natD far, Dat.int (10 ^ Int.toNat 40)] = items at hmem
  refine ⟨fun j ρ' => ∃ s15, ρ' = [.d (.scr ns), .d (.int (lap : Int)), .src s0, .d (natD i), .d (natD p), .d (natsD l1), .d (natsD l3), .d (.int (e3 : Int)), .d (formD f), .d (.obj a.C_NumberSet (nsF kf)), .d (.lst ((mem (inside f) N).map natD)), .d (natD (down (fun k => inside f k == true) i)), .d (natD (down (fun k => inside f k == false) i)), .d (natD many), .own ((mem (inside f) n).map natD), s15, .d (natD far), .no], ⟨_, rfl⟩, fun j x ρ' hx hw => ?_, fun ρ' hw => ?_⟩
  · obtain ⟨s15, rfl⟩ := hw
    obtain ⟨m, rfl, hm⟩ := hmem x (List.mem_of_getElem? hx)
    have hbk : below kf m = below f m := by rw [hkf]; exact below_kept rt m
    have hbl : below f m ≤ 10 ^ 40 := by rw [below_cnt rt]; exact Nat.le_trans (cnt_le _ m) hm
    walk_at "w"
    refine ⟨rfl, ?_⟩
    walk_at "w"
    refine ⟨kf, m, rfl, okK, hm, ?_⟩
    rw [hbk]
    walk_at "w"
    · exact lg hbl
    walk_at "w"
    refine ⟨f, m, rfl, ok, hm, ?_⟩
    walk_at "w"
    · exact lg hbl
    generalize sW (toString ((below f m : Nat) : Int)) = tx
    refine o2_neS ?_
    rw [decide_eq_true rfl]
    refine ⟨_, rfl, fun z => (nomatch z), fun _ => run_next ?_⟩
    exact ⟨_, rfl⟩
  · obtain ⟨s15, rfl⟩ := hw
    walk_at "w"
    exact ⟨kf, rfl, _, rfl, hR⟩
def S_law : List Dat → (Dat → Prop) → Prop := fun ds R => ∃ ns : List Int, ds = [.scr ns] ∧ ns.length ≤ 63 ∧ (∀ z ∈ ns, Builtin.Int.intBits z ≤ 1048576) ∧ R = fun d => d = .bl true
theorem ok_law (T : Tx P K mg a) : FnG P wd K mg base CX0 8 a.f_law a.d_law ["script"] (spF K S_law) :=
  okG T.F_law sc_law (fun ds R h => by obtain ⟨ns, rfl, hns, hb, rfl⟩ := h; rfl) fun cdv A outer s H E hG hr => by
  refine ⟨_, (pss_cons (ps_for PassesOwn.never rfl (pi_range1 rfl T.n_range (pa_cons pe_int pa_nil)) (pg_name (i := 1) sc_law.nd rfl (Or.inl rfl))
  (pss_one (ps_if (pt_not (pt_val (pe_callG hG (ok__law_once T) (hr.mono (by decide)) (by rfl) T.g__law_once T.k__law_once T.b__law_once pass0 (pa_cons (pv 0) (pa_cons (pv 1) pa_nil)))))
  (pss_one (ps_ret pe_bl))
  pss_nil)))
 (pss_one (ps_ret pe_bl))), fun ds R h => ?_⟩
  obtain ⟨ns, rfl, hns, hb, rfl⟩ := h
  walk_at "start"
  walk_at "w"
  refine ⟨fun i ρ' => ∃ s1, ρ' = [.d (.scr ns), s1], ⟨_, rfl⟩, fun i x ρ' hx hw => ?_, fun ρ' hw => ?_⟩
  · obtain ⟨s1, rfl⟩ := hw
    obtain ⟨hi, rfl⟩ := rng0_get hx
    have hi2 : i < 3 := hi
    walk_at "w"
    refine ⟨ns, i, rfl, hns, hb, by omega, ?_⟩
    walk_at "w"
    exact ⟨_, rfl⟩
  · obtain ⟨s1, rfl⟩ := hw
    walk_at "w"
    rfl

end

theorem law_mk {l : PySem.W.OpenLaw} {w : World} {K : PySem.W.Frag} {h : Heap} {mg : Str → Option Value} {fa : Addr} (X : K.In h) (G : h.Ns mainGlobals mg) (hfa : mg "law" = some (.ref fa)) {C_NumberSet f_is_listed f__law_source f__law_pick f_law f_is_integer f_check_number f_checked_members f_least_period f_reduced f_is_member f_NumberSetu_initu f_NumberSetu_containsu f_NumberSet_least f_NumberSet_lasting f_NumberSet_gone f_NumberSet_listed f_NumberSet_counted f_form_of f__law_inside f__law_below f__law_refusals f__law_once C_BadNumber C_BadMembers C_WrongThing C_WrongItem f_WrongThingu_initu cc_WrongThingu_initu cda_WrongThingu_initu f_WrongItemu_initu cc_WrongItemu_initu cda_WrongItemu_initu : Addr}
    {t_MOST_INDEX t_MOST_MEMBER t_MOST_LISTED : Tok}
    {od_is_listed an_is_listed od__law_source an__law_source od__law_pick an__law_pick od_law an_law od_is_integer an_is_integer od_check_number an_check_number od_checked_members an_checked_members od_least_period an_least_period od_reduced an_reduced od_is_member an_is_member od_NumberSetu_initu an_NumberSetu_initu od_NumberSetu_containsu an_NumberSetu_containsu od_NumberSet_least an_NumberSet_least od_NumberSet_lasting an_NumberSet_lasting od_NumberSet_gone an_NumberSet_gone od_NumberSet_listed an_NumberSet_listed od_NumberSet_counted an_NumberSet_counted od_form_of an_form_of od__law_inside an__law_inside od__law_below an__law_below od__law_refusals an__law_refusals od__law_once an__law_once od_WrongThingu_initu an_WrongThingu_initu od_WrongItemu_initu an_WrongItemu_initu : Option Addr} {sl_is_listed sl__law_source sl__law_pick sl_law sl_is_integer sl_check_number sl_checked_members sl_least_period sl_reduced sl_is_member sl_NumberSetu_initu sl_NumberSetu_containsu sl_NumberSet_least sl_NumberSet_lasting sl_NumberSet_gone sl_NumberSet_listed sl_NumberSet_counted sl_form_of sl__law_inside sl__law_below sl__law_refusals sl__law_once sl_WrongThingu_initu sl_WrongItemu_initu : Array (Option Value)} {oc_is_listed kV_is_listed dc_is_listed pm_is_listed cd_is_listed ct_is_listed oc__law_source kV__law_source dc__law_source pm__law_source cd__law_source ct__law_source oc__law_pick kV__law_pick dc__law_pick pm__law_pick cd__law_pick ct__law_pick oc_law kV_law dc_law pm_law cd_law ct_law oc_is_integer kV_is_integer dc_is_integer pm_is_integer cd_is_integer ct_is_integer oc_check_number kV_check_number dc_check_number pm_check_number cd_check_number ct_check_number oc_checked_members kV_checked_members dc_checked_members pm_checked_members cd_checked_members ct_checked_members oc_least_period kV_least_period dc_least_period pm_least_period cd_least_period ct_least_period oc_reduced kV_reduced dc_reduced pm_reduced cd_reduced ct_reduced oc_is_member kV_is_member dc_is_member pm_is_member cd_is_member ct_is_member oc_NumberSetu_initu kV_NumberSetu_initu dc_NumberSetu_initu pm_NumberSetu_initu cd_NumberSetu_initu ct_NumberSetu_initu oc_NumberSetu_containsu kV_NumberSetu_containsu dc_NumberSetu_containsu pm_NumberSetu_containsu cd_NumberSetu_containsu ct_NumberSetu_containsu oc_NumberSet_least kV_NumberSet_least dc_NumberSet_least pm_NumberSet_least cd_NumberSet_least ct_NumberSet_least oc_NumberSet_lasting kV_NumberSet_lasting dc_NumberSet_lasting pm_NumberSet_lasting cd_NumberSet_lasting ct_NumberSet_lasting oc_NumberSet_gone kV_NumberSet_gone dc_NumberSet_gone pm_NumberSet_gone cd_NumberSet_gone ct_NumberSet_gone oc_NumberSet_listed kV_NumberSet_listed dc_NumberSet_listed pm_NumberSet_listed cd_NumberSet_listed ct_NumberSet_listed oc_NumberSet_counted kV_NumberSet_counted dc_NumberSet_counted pm_NumberSet_counted cd_NumberSet_counted ct_NumberSet_counted oc_form_of kV_form_of dc_form_of pm_form_of cd_form_of ct_form_of oc__law_inside kV__law_inside dc__law_inside pm__law_inside cd__law_inside ct__law_inside oc__law_below kV__law_below dc__law_below pm__law_below cd__law_below ct__law_below oc__law_refusals kV__law_refusals dc__law_refusals pm__law_refusals cd__law_refusals ct__law_refusals oc__law_once kV__law_once dc__law_once pm__law_once cd__law_once ct__law_once oc_WrongThingu_initu kV_WrongThingu_initu dc_WrongThingu_initu pm_WrongThingu_initu ct_WrongThingu_initu oc_WrongItemu_initu kV_WrongItemu_initu dc_WrongItemu_initu pm_WrongItemu_initu ct_WrongItemu_initu : Value}
    {xnm_BadNumber : Str}
    {xq_BadNumber : Str}
    {xN_BadNumber : Addr}
    {xbs_BadNumber : List Value}
    {xbm_BadNumber : List Value}
    {xsn_BadNumber : List Str}
    {xsub_BadNumber : List Value}
    {xab_BadNumber : Bool}
    {xcol_BadNumber : Option Bool}
    {xdd_BadNumber : Option Addr}
    {xk0_BadNumber : Option Value}
    {xk1_BadNumber : Option Value}
    {xk2_BadNumber : Option Value}
    {xk3_BadNumber : Option Value}
    {xk5_BadNumber : Option Value}
    {xnm_BadMembers : Str}
    {xq_BadMembers : Str}
    {xN_BadMembers : Addr}
    {xbs_BadMembers : List Value}
    {xbm_BadMembers : List Value}
    {xsn_BadMembers : List Str}
    {xsub_BadMembers : List Value}
    {xab_BadMembers : Bool}
    {xcol_BadMembers : Option Bool}
    {xdd_BadMembers : Option Addr}
    {xk0_BadMembers : Option Value}
    {xk1_BadMembers : Option Value}
    {xk2_BadMembers : Option Value}
    {xk3_BadMembers : Option Value}
    {xk5_BadMembers : Option Value}
    {ucl_WrongThingu_initu : Value}
    {udd_WrongThingu_initu : Option Addr}
    {uvs_WrongThingu_initu : Array Value}
    {ucs_WrongThingu_initu : Array (Option Value)}
    {ufl_WrongThingu_initu : Str}
    {utf_WrongThingu_initu : Tok}
    {vcl_WrongThingu_initu : Value}
    {vcd_WrongThingu_initu : Option Addr}
    {vcs_WrongThingu_initu : Array (Option Value)}
    {wcl_WrongThingu_initu : Value}
    {wcd_WrongThingu_initu : Option Addr}
    {wdt_WrongThingu_initu : ClassData}
    {wsl_WrongThingu_initu : Array (Option Value)}
    {ucl_WrongItemu_initu : Value}
    {udd_WrongItemu_initu : Option Addr}
    {uvs_WrongItemu_initu : Array Value}
    {ucs_WrongItemu_initu : Array (Option Value)}
    {ufl_WrongItemu_initu : Str}
    {utf_WrongItemu_initu : Tok}
    {vcl_WrongItemu_initu : Value}
    {vcd_WrongItemu_initu : Option Addr}
    {vcs_WrongItemu_initu : Array (Option Value)}
    {wcl_WrongItemu_initu : Value}
    {wcd_WrongItemu_initu : Option Addr}
    {wdt_WrongItemu_initu : ClassData}
    {wsl_WrongItemu_initu : Array (Option Value)}
    (n_abs : PySem.W.nsIn K mainGlobals "abs" = some none)
    (n_bool : PySem.W.nsIn K mainGlobals "bool" = some none)
    (n_divmod : PySem.W.nsIn K mainGlobals "divmod" = some none)
    (n_int : PySem.W.nsIn K mainGlobals "int" = some none)
    (n_isinstance : PySem.W.nsIn K mainGlobals "isinstance" = some none)
    (n_len : PySem.W.nsIn K mainGlobals "len" = some none)
    (n_list : PySem.W.nsIn K mainGlobals "list" = some none)
    (n_max : PySem.W.nsIn K mainGlobals "max" = some none)
    (n_range : PySem.W.nsIn K mainGlobals "range" = some none)
    (n_repr : PySem.W.nsIn K mainGlobals "repr" = some none)
    (n_str : PySem.W.nsIn K mainGlobals "str" = some none)
    (n_tuple : PySem.W.nsIn K mainGlobals "tuple" = some none)
    (c_MOST_INDEX : PySem.W.nsIn K mainGlobals "MOST_INDEX" = some (some (Value.int 1000 t_MOST_INDEX)))
    (c_MOST_MEMBER : PySem.W.nsIn K mainGlobals "MOST_MEMBER" = some (some (Value.int 10000000000000000000000000000000000000000 t_MOST_MEMBER)))
    (c_MOST_LISTED : PySem.W.nsIn K mainGlobals "MOST_LISTED" = some (some (Value.int 200 t_MOST_LISTED)))
    (a_is_listed : PySem.W.nsIn K mainGlobals "is_listed" = some (some (.ref f_is_listed)))
    (l_is_listed : K.lookup f_is_listed = some ⟨oc_is_listed, od_is_listed, .func (PySem.W.fnOf "is_listed" "is_listed" (defArgs s_is_listed) (defBody s_is_listed) (defScope s_is_listed) .none kV_is_listed dc_is_listed pm_is_listed an_is_listed cd_is_listed ct_is_listed), sl_is_listed⟩)
    (e_is_listed : PySem.W.codeIn K cd_is_listed "is_listed" = true)
    (k_is_listed : PySem.W.keepIn K (.ref f_is_listed) = true)
    (a__law_source : PySem.W.nsIn K mainGlobals "_law_source" = some (some (.ref f__law_source)))
    (l__law_source : K.lookup f__law_source = some ⟨oc__law_source, od__law_source, .func (PySem.W.fnOf "_law_source" "_law_source" (defArgs s__law_source) (defBody s__law_source) (defScope s__law_source) .none kV__law_source dc__law_source pm__law_source an__law_source cd__law_source ct__law_source), sl__law_source⟩)
    (e__law_source : PySem.W.codeIn K cd__law_source "_law_source" = true)
    (k__law_source : PySem.W.keepIn K (.ref f__law_source) = true)
    (a__law_pick : PySem.W.nsIn K mainGlobals "_law_pick" = some (some (.ref f__law_pick)))
    (l__law_pick : K.lookup f__law_pick = some ⟨oc__law_pick, od__law_pick, .func (PySem.W.fnOf "_law_pick" "_law_pick" (defArgs s__law_pick) (defBody s__law_pick) (defScope s__law_pick) .none kV__law_pick dc__law_pick pm__law_pick an__law_pick cd__law_pick ct__law_pick), sl__law_pick⟩)
    (e__law_pick : PySem.W.codeIn K cd__law_pick "_law_pick" = true)
    (k__law_pick : PySem.W.keepIn K (.ref f__law_pick) = true)
    (a_law : PySem.W.nsIn K mainGlobals "law" = some (some (.ref f_law)))
    (l_law : K.lookup f_law = some ⟨oc_law, od_law, .func (PySem.W.fnOf "law" "law" (defArgs s_law) (defBody s_law) (defScope s_law) .none kV_law dc_law pm_law an_law cd_law ct_law), sl_law⟩)
    (e_law : PySem.W.codeIn K cd_law "law" = true)
    (k_law : PySem.W.keepIn K (.ref f_law) = true)
    (a_is_integer : PySem.W.nsIn K mainGlobals "is_integer" = some (some (.ref f_is_integer)))
    (l_is_integer : K.lookup f_is_integer = some ⟨oc_is_integer, od_is_integer, .func (PySem.W.fnOf "is_integer" "is_integer" (defArgs s_is_integer) (defBody s_is_integer) (defScope s_is_integer) .none kV_is_integer dc_is_integer pm_is_integer an_is_integer cd_is_integer ct_is_integer), sl_is_integer⟩)
    (e_is_integer : PySem.W.codeIn K cd_is_integer "is_integer" = true)
    (k_is_integer : PySem.W.keepIn K (.ref f_is_integer) = true)
    (a_check_number : PySem.W.nsIn K mainGlobals "check_number" = some (some (.ref f_check_number)))
    (l_check_number : K.lookup f_check_number = some ⟨oc_check_number, od_check_number, .func (PySem.W.fnOf "check_number" "check_number" (defArgs s_check_number) (defBody s_check_number) (defScope s_check_number) .none kV_check_number dc_check_number pm_check_number an_check_number cd_check_number ct_check_number), sl_check_number⟩)
    (e_check_number : PySem.W.codeIn K cd_check_number "check_number" = true)
    (k_check_number : PySem.W.keepIn K (.ref f_check_number) = true)
    (a_checked_members : PySem.W.nsIn K mainGlobals "checked_members" = some (some (.ref f_checked_members)))
    (l_checked_members : K.lookup f_checked_members = some ⟨oc_checked_members, od_checked_members, .func (PySem.W.fnOf "checked_members" "checked_members" (defArgs s_checked_members) (defBody s_checked_members) (defScope s_checked_members) .none kV_checked_members dc_checked_members pm_checked_members an_checked_members cd_checked_members ct_checked_members), sl_checked_members⟩)
    (e_checked_members : PySem.W.codeIn K cd_checked_members "checked_members" = true)
    (k_checked_members : PySem.W.keepIn K (.ref f_checked_members) = true)
    (a_least_period : PySem.W.nsIn K mainGlobals "least_period" = some (some (.ref f_least_period)))
    (l_least_period : K.lookup f_least_period = some ⟨oc_least_period, od_least_period, .func (PySem.W.fnOf "least_period" "least_period" (defArgs s_least_period) (defBody s_least_period) (defScope s_least_period) .none kV_least_period dc_least_period pm_least_period an_least_period cd_least_period ct_least_period), sl_least_period⟩)
    (e_least_period : PySem.W.codeIn K cd_least_period "least_period" = true)
    (k_least_period : PySem.W.keepIn K (.ref f_least_period) = true)
    (a_reduced : PySem.W.nsIn K mainGlobals "reduced" = some (some (.ref f_reduced)))
    (l_reduced : K.lookup f_reduced = some ⟨oc_reduced, od_reduced, .func (PySem.W.fnOf "reduced" "reduced" (defArgs s_reduced) (defBody s_reduced) (defScope s_reduced) .none kV_reduced dc_reduced pm_reduced an_reduced cd_reduced ct_reduced), sl_reduced⟩)
    (e_reduced : PySem.W.codeIn K cd_reduced "reduced" = true)
    (k_reduced : PySem.W.keepIn K (.ref f_reduced) = true)
    (a_is_member : PySem.W.nsIn K mainGlobals "is_member" = some (some (.ref f_is_member)))
    (l_is_member : K.lookup f_is_member = some ⟨oc_is_member, od_is_member, .func (PySem.W.fnOf "is_member" "is_member" (defArgs s_is_member) (defBody s_is_member) (defScope s_is_member) .none kV_is_member dc_is_member pm_is_member an_is_member cd_is_member ct_is_member), sl_is_member⟩)
    (e_is_member : PySem.W.codeIn K cd_is_member "is_member" = true)
    (k_is_member : PySem.W.keepIn K (.ref f_is_member) = true)
    (a_NumberSetu_initu : PySem.W.findIn K (.ref C_NumberSet) "__init__" = some (some (.ref f_NumberSetu_initu)))
    (l_NumberSetu_initu : K.lookup f_NumberSetu_initu = some ⟨oc_NumberSetu_initu, od_NumberSetu_initu, .func (PySem.W.fnOf "__init__" "NumberSet.__init__" (defArgs s_NumberSetu_initu) (defBody s_NumberSetu_initu) (defScope s_NumberSetu_initu) .none kV_NumberSetu_initu dc_NumberSetu_initu pm_NumberSetu_initu an_NumberSetu_initu cd_NumberSetu_initu ct_NumberSetu_initu), sl_NumberSetu_initu⟩)
    (e_NumberSetu_initu : PySem.W.codeIn K cd_NumberSetu_initu "NumberSet.__init__" = true)
    (k_NumberSetu_initu : PySem.W.keepIn K (.ref f_NumberSetu_initu) = true)
    (a_NumberSetu_containsu : PySem.W.findIn K (.ref C_NumberSet) "__contains__" = some (some (.ref f_NumberSetu_containsu)))
    (l_NumberSetu_containsu : K.lookup f_NumberSetu_containsu = some ⟨oc_NumberSetu_containsu, od_NumberSetu_containsu, .func (PySem.W.fnOf "__contains__" "NumberSet.__contains__" (defArgs s_NumberSetu_containsu) (defBody s_NumberSetu_containsu) (defScope s_NumberSetu_containsu) .none kV_NumberSetu_containsu dc_NumberSetu_containsu pm_NumberSetu_containsu an_NumberSetu_containsu cd_NumberSetu_containsu ct_NumberSetu_containsu), sl_NumberSetu_containsu⟩)
    (e_NumberSetu_containsu : PySem.W.codeIn K cd_NumberSetu_containsu "NumberSet.__contains__" = true)
    (k_NumberSetu_containsu : PySem.W.keepIn K (.ref f_NumberSetu_containsu) = true)
    (a_NumberSet_least : PySem.W.findIn K (.ref C_NumberSet) "least" = some (some (.ref f_NumberSet_least)))
    (l_NumberSet_least : K.lookup f_NumberSet_least = some ⟨oc_NumberSet_least, od_NumberSet_least, .func (PySem.W.fnOf "least" "NumberSet.least" (defArgs s_NumberSet_least) (defBody s_NumberSet_least) (defScope s_NumberSet_least) .none kV_NumberSet_least dc_NumberSet_least pm_NumberSet_least an_NumberSet_least cd_NumberSet_least ct_NumberSet_least), sl_NumberSet_least⟩)
    (e_NumberSet_least : PySem.W.codeIn K cd_NumberSet_least "NumberSet.least" = true)
    (k_NumberSet_least : PySem.W.keepIn K (.ref f_NumberSet_least) = true)
    (a_NumberSet_lasting : PySem.W.findIn K (.ref C_NumberSet) "lasting" = some (some (.ref f_NumberSet_lasting)))
    (l_NumberSet_lasting : K.lookup f_NumberSet_lasting = some ⟨oc_NumberSet_lasting, od_NumberSet_lasting, .func (PySem.W.fnOf "lasting" "NumberSet.lasting" (defArgs s_NumberSet_lasting) (defBody s_NumberSet_lasting) (defScope s_NumberSet_lasting) .none kV_NumberSet_lasting dc_NumberSet_lasting pm_NumberSet_lasting an_NumberSet_lasting cd_NumberSet_lasting ct_NumberSet_lasting), sl_NumberSet_lasting⟩)
    (e_NumberSet_lasting : PySem.W.codeIn K cd_NumberSet_lasting "NumberSet.lasting" = true)
    (k_NumberSet_lasting : PySem.W.keepIn K (.ref f_NumberSet_lasting) = true)
    (a_NumberSet_gone : PySem.W.findIn K (.ref C_NumberSet) "gone" = some (some (.ref f_NumberSet_gone)))
    (l_NumberSet_gone : K.lookup f_NumberSet_gone = some ⟨oc_NumberSet_gone, od_NumberSet_gone, .func (PySem.W.fnOf "gone" "NumberSet.gone" (defArgs s_NumberSet_gone) (defBody s_NumberSet_gone) (defScope s_NumberSet_gone) .none kV_NumberSet_gone dc_NumberSet_gone pm_NumberSet_gone an_NumberSet_gone cd_NumberSet_gone ct_NumberSet_gone), sl_NumberSet_gone⟩)
    (e_NumberSet_gone : PySem.W.codeIn K cd_NumberSet_gone "NumberSet.gone" = true)
    (k_NumberSet_gone : PySem.W.keepIn K (.ref f_NumberSet_gone) = true)
    (a_NumberSet_listed : PySem.W.findIn K (.ref C_NumberSet) "listed" = some (some (.ref f_NumberSet_listed)))
    (l_NumberSet_listed : K.lookup f_NumberSet_listed = some ⟨oc_NumberSet_listed, od_NumberSet_listed, .func (PySem.W.fnOf "listed" "NumberSet.listed" (defArgs s_NumberSet_listed) (defBody s_NumberSet_listed) (defScope s_NumberSet_listed) .none kV_NumberSet_listed dc_NumberSet_listed pm_NumberSet_listed an_NumberSet_listed cd_NumberSet_listed ct_NumberSet_listed), sl_NumberSet_listed⟩)
    (e_NumberSet_listed : PySem.W.codeIn K cd_NumberSet_listed "NumberSet.listed" = true)
    (k_NumberSet_listed : PySem.W.keepIn K (.ref f_NumberSet_listed) = true)
    (a_NumberSet_counted : PySem.W.findIn K (.ref C_NumberSet) "counted" = some (some (.ref f_NumberSet_counted)))
    (l_NumberSet_counted : K.lookup f_NumberSet_counted = some ⟨oc_NumberSet_counted, od_NumberSet_counted, .func (PySem.W.fnOf "counted" "NumberSet.counted" (defArgs s_NumberSet_counted) (defBody s_NumberSet_counted) (defScope s_NumberSet_counted) .none kV_NumberSet_counted dc_NumberSet_counted pm_NumberSet_counted an_NumberSet_counted cd_NumberSet_counted ct_NumberSet_counted), sl_NumberSet_counted⟩)
    (e_NumberSet_counted : PySem.W.codeIn K cd_NumberSet_counted "NumberSet.counted" = true)
    (k_NumberSet_counted : PySem.W.keepIn K (.ref f_NumberSet_counted) = true)
    (a_form_of : PySem.W.nsIn K mainGlobals "form_of" = some (some (.ref f_form_of)))
    (l_form_of : K.lookup f_form_of = some ⟨oc_form_of, od_form_of, .func (PySem.W.fnOf "form_of" "form_of" (defArgs s_form_of) (defBody s_form_of) (defScope s_form_of) .none kV_form_of dc_form_of pm_form_of an_form_of cd_form_of ct_form_of), sl_form_of⟩)
    (e_form_of : PySem.W.codeIn K cd_form_of "form_of" = true)
    (k_form_of : PySem.W.keepIn K (.ref f_form_of) = true)
    (a__law_inside : PySem.W.nsIn K mainGlobals "_law_inside" = some (some (.ref f__law_inside)))
    (l__law_inside : K.lookup f__law_inside = some ⟨oc__law_inside, od__law_inside, .func (PySem.W.fnOf "_law_inside" "_law_inside" (defArgs s__law_inside) (defBody s__law_inside) (defScope s__law_inside) .none kV__law_inside dc__law_inside pm__law_inside an__law_inside cd__law_inside ct__law_inside), sl__law_inside⟩)
    (e__law_inside : PySem.W.codeIn K cd__law_inside "_law_inside" = true)
    (k__law_inside : PySem.W.keepIn K (.ref f__law_inside) = true)
    (a__law_below : PySem.W.nsIn K mainGlobals "_law_below" = some (some (.ref f__law_below)))
    (l__law_below : K.lookup f__law_below = some ⟨oc__law_below, od__law_below, .func (PySem.W.fnOf "_law_below" "_law_below" (defArgs s__law_below) (defBody s__law_below) (defScope s__law_below) .none kV__law_below dc__law_below pm__law_below an__law_below cd__law_below ct__law_below), sl__law_below⟩)
    (e__law_below : PySem.W.codeIn K cd__law_below "_law_below" = true)
    (k__law_below : PySem.W.keepIn K (.ref f__law_below) = true)
    (a__law_refusals : PySem.W.nsIn K mainGlobals "_law_refusals" = some (some (.ref f__law_refusals)))
    (l__law_refusals : K.lookup f__law_refusals = some ⟨oc__law_refusals, od__law_refusals, .func (PySem.W.fnOf "_law_refusals" "_law_refusals" (defArgs s__law_refusals) (defBody s__law_refusals) (defScope s__law_refusals) .none kV__law_refusals dc__law_refusals pm__law_refusals an__law_refusals cd__law_refusals ct__law_refusals), sl__law_refusals⟩)
    (e__law_refusals : PySem.W.codeIn K cd__law_refusals "_law_refusals" = true)
    (k__law_refusals : PySem.W.keepIn K (.ref f__law_refusals) = true)
    (a__law_once : PySem.W.nsIn K mainGlobals "_law_once" = some (some (.ref f__law_once)))
    (l__law_once : K.lookup f__law_once = some ⟨oc__law_once, od__law_once, .func (PySem.W.fnOf "_law_once" "_law_once" (defArgs s__law_once) (defBody s__law_once) (defScope s__law_once) .none kV__law_once dc__law_once pm__law_once an__law_once cd__law_once ct__law_once), sl__law_once⟩)
    (e__law_once : PySem.W.codeIn K cd__law_once "_law_once" = true)
    (k__law_once : PySem.W.keepIn K (.ref f__law_once) = true)
    (g_NumberSet : PySem.W.nsIn K mainGlobals "NumberSet" = some (some (.ref C_NumberSet)))
    (pg_NumberSet : PySem.W.plainGet K C_NumberSet Str.empty = true)
    (hd_NumberSet : PySem.W.hasDictIn K C_NumberSet = true)
    (po_NumberSet : PySem.W.plainOver K C_NumberSet = true)
    (sa_NumberSet : PySem.W.findIn K (.ref C_NumberSet) "__setattr__" = some (some (.builtin "object.__setattr__")))
    (mk_NumberSet : PySem.W.makesIn K C_NumberSet = true)
    (if_NumberSet : PySem.W.isFn K (.ref f_NumberSetu_initu) = true)
    (kc_NumberSet : PySem.W.keepIn K (.ref C_NumberSet) = true)
    (x_NumberSet_since : PySem.W.findIn K (.ref C_NumberSet) "since" = some none)
    (x_NumberSet_period : PySem.W.findIn K (.ref C_NumberSet) "period" = some none)
    (x_NumberSet_firsts : PySem.W.findIn K (.ref C_NumberSet) "firsts" = some none)
    (x_NumberSet_later : PySem.W.findIn K (.ref C_NumberSet) "later" = some none)
    (ps_NumberSetu_containsu : PySem.W.isFn K (.ref f_NumberSetu_containsu) = true)
    (ps_NumberSet_counted : PySem.W.isFn K (.ref f_NumberSet_counted) = true)
    (ps_NumberSet_gone : PySem.W.isFn K (.ref f_NumberSet_gone) = true)
    (ps_NumberSet_lasting : PySem.W.isFn K (.ref f_NumberSet_lasting) = true)
    (ps_NumberSet_least : PySem.W.isFn K (.ref f_NumberSet_least) = true)
    (ps_NumberSet_listed : PySem.W.isFn K (.ref f_NumberSet_listed) = true)
    (g_BadNumber : PySem.W.nsIn K mainGlobals "BadNumber" = some (some (.ref C_BadNumber)))
    (g_BadMembers : PySem.W.nsIn K mainGlobals "BadMembers" = some (some (.ref C_BadMembers)))
    (g_WrongThing : PySem.W.nsIn K mainGlobals "WrongThing" = some (some (.ref C_WrongThing)))
    (g_WrongItem : PySem.W.nsIn K mainGlobals "WrongItem" = some (some (.ref C_WrongItem)))
    (oc_BadNumber : K.lookup C_BadNumber = some (excClassObj xnm_BadNumber xq_BadNumber C_BadNumber xN_BadNumber xbs_BadNumber xbm_BadNumber true xsn_BadNumber xsub_BadNumber xab_BadNumber xcol_BadNumber xdd_BadNumber xk0_BadNumber xk1_BadNumber xk2_BadNumber xk3_BadNumber xk5_BadNumber "ValueError.__new__"))
    (ov_BadNumber : PySem.HandSPX.refsVE xbm_BadNumber = true)
    (os_BadNumber : PySem.W.findIn K (.ref C_BadNumber) "__setattr__" = some (some (.builtin "object.__setattr__")))
    (ob_BadNumber : PySem.W.subIn K (.ref C_BadNumber) (.type "BaseException") = some true)
    (oy_BadNumber : PySem.W.typeIn K (.ref C_BadNumber) = some (.type "type"))
    (ok_BadNumber : PySem.W.keepIn K (.ref C_BadNumber) = true)
    (xg1_BadNumber : PySem.W.findIn K (.ref C_BadNumber) "__getattribute__" = some (some (.builtin "BaseException.__getattribute__")))
    (xg2_BadNumber : PySem.W.findIn K (.ref C_BadNumber) "__getattr__" = some none)
    (xg4_BadNumber : PySem.W.hasDictIn K C_BadNumber = true)
    (xn_BadNumber_thing : PySem.W.findIn K (.ref C_BadNumber) "thing" = some none)
    (oi_BadNumber : PySem.W.findIn K (.ref C_BadNumber) "__init__" = some (some (.ref f_WrongThingu_initu)))
    (sx1_BadNumber : PySem.W.mroIn K C_BadNumber (.ref C_WrongThing) = some true)
    (sx2_BadNumber : PySem.W.ks_superIn K C_BadNumber C_WrongThing "__init__" = some (some (.builtin "ValueError.__init__")))
    (sx3_BadNumber : PySem.W.subIn K (.ref C_BadNumber) (.type "ValueError") = some true)
    (xm_BadNumber_BadNumber : PySem.W.exmOne K (.ref C_BadNumber) (.ref C_BadNumber) = some true)
    (xm_BadNumber_BadMembers : PySem.W.exmOne K (.ref C_BadNumber) (.ref C_BadMembers) = some false)
    (oc_BadMembers : K.lookup C_BadMembers = some (excClassObj xnm_BadMembers xq_BadMembers C_BadMembers xN_BadMembers xbs_BadMembers xbm_BadMembers true xsn_BadMembers xsub_BadMembers xab_BadMembers xcol_BadMembers xdd_BadMembers xk0_BadMembers xk1_BadMembers xk2_BadMembers xk3_BadMembers xk5_BadMembers "ValueError.__new__"))
    (ov_BadMembers : PySem.HandSPX.refsVE xbm_BadMembers = true)
    (os_BadMembers : PySem.W.findIn K (.ref C_BadMembers) "__setattr__" = some (some (.builtin "object.__setattr__")))
    (ob_BadMembers : PySem.W.subIn K (.ref C_BadMembers) (.type "BaseException") = some true)
    (oy_BadMembers : PySem.W.typeIn K (.ref C_BadMembers) = some (.type "type"))
    (ok_BadMembers : PySem.W.keepIn K (.ref C_BadMembers) = true)
    (xg1_BadMembers : PySem.W.findIn K (.ref C_BadMembers) "__getattribute__" = some (some (.builtin "BaseException.__getattribute__")))
    (xg2_BadMembers : PySem.W.findIn K (.ref C_BadMembers) "__getattr__" = some none)
    (xg4_BadMembers : PySem.W.hasDictIn K C_BadMembers = true)
    (xn_BadMembers_place : PySem.W.findIn K (.ref C_BadMembers) "place" = some none)
    (oi_BadMembers : PySem.W.findIn K (.ref C_BadMembers) "__init__" = some (some (.ref f_WrongItemu_initu)))
    (sx1_BadMembers : PySem.W.mroIn K C_BadMembers (.ref C_WrongItem) = some true)
    (sx2_BadMembers : PySem.W.ks_superIn K C_BadMembers C_WrongItem "__init__" = some (some (.builtin "ValueError.__init__")))
    (sx3_BadMembers : PySem.W.subIn K (.ref C_BadMembers) (.type "ValueError") = some true)
    (xm_BadMembers_BadNumber : PySem.W.exmOne K (.ref C_BadMembers) (.ref C_BadNumber) = some false)
    (xm_BadMembers_BadMembers : PySem.W.exmOne K (.ref C_BadMembers) (.ref C_BadMembers) = some true)
    (l_WrongThingu_initu : K.lookup f_WrongThingu_initu = some ⟨oc_WrongThingu_initu, od_WrongThingu_initu, .func (PySem.W.fnX "__init__" "WrongThing.__init__" (defArgs s_WrongThingu_initu) (defBody s_WrongThingu_initu) (defScope s_WrongThingu_initu) [("__class__", cc_WrongThingu_initu)] .none kV_WrongThingu_initu dc_WrongThingu_initu pm_WrongThingu_initu an_WrongThingu_initu (.ref cda_WrongThingu_initu) ct_WrongThingu_initu), sl_WrongThingu_initu⟩)
    (e_WrongThingu_initu : PySem.W.codeIn K (.ref cda_WrongThingu_initu) "WrongThing.__init__" = true)
    (ot_WrongThingu_initu : PySem.W.typeIn K (.ref f_WrongThingu_initu) = some (.type "function"))
    (u1_WrongThingu_initu : K.lookup cda_WrongThingu_initu = some ⟨ucl_WrongThingu_initu, udd_WrongThingu_initu, .fields uvs_WrongThingu_initu, ucs_WrongThingu_initu⟩)
    (u2_WrongThingu_initu : uvs_WrongThingu_initu[2]? = some (.str ufl_WrongThingu_initu utf_WrongThingu_initu))
    (u3_WrongThingu_initu : ((l.prog.main.file : Str) == ufl_WrongThingu_initu) = true)
    (u4 : (l.prog.main.scope.names.lookup ("super" : Str)).isSome = false)
    (u5_WrongThingu_initu : K.lookup cc_WrongThingu_initu = some ⟨vcl_WrongThingu_initu, vcd_WrongThingu_initu, .cell (some (.ref C_WrongThing)), vcs_WrongThingu_initu⟩)
    (u6_WrongThingu_initu : K.lookup C_WrongThing = some ⟨wcl_WrongThingu_initu, wcd_WrongThingu_initu, .cls wdt_WrongThingu_initu, wsl_WrongThingu_initu⟩)
    (u7 : PySem.W.nsIn K mainGlobals "super" = some none)
    (u8 : PySem.W.nsIn K PySem.cStatics "thirdparty.any" = some none)
    (l_WrongItemu_initu : K.lookup f_WrongItemu_initu = some ⟨oc_WrongItemu_initu, od_WrongItemu_initu, .func (PySem.W.fnX "__init__" "WrongItem.__init__" (defArgs s_WrongItemu_initu) (defBody s_WrongItemu_initu) (defScope s_WrongItemu_initu) [("__class__", cc_WrongItemu_initu)] .none kV_WrongItemu_initu dc_WrongItemu_initu pm_WrongItemu_initu an_WrongItemu_initu (.ref cda_WrongItemu_initu) ct_WrongItemu_initu), sl_WrongItemu_initu⟩)
    (e_WrongItemu_initu : PySem.W.codeIn K (.ref cda_WrongItemu_initu) "WrongItem.__init__" = true)
    (ot_WrongItemu_initu : PySem.W.typeIn K (.ref f_WrongItemu_initu) = some (.type "function"))
    (u1_WrongItemu_initu : K.lookup cda_WrongItemu_initu = some ⟨ucl_WrongItemu_initu, udd_WrongItemu_initu, .fields uvs_WrongItemu_initu, ucs_WrongItemu_initu⟩)
    (u2_WrongItemu_initu : uvs_WrongItemu_initu[2]? = some (.str ufl_WrongItemu_initu utf_WrongItemu_initu))
    (u3_WrongItemu_initu : ((l.prog.main.file : Str) == ufl_WrongItemu_initu) = true)
    (u5_WrongItemu_initu : K.lookup cc_WrongItemu_initu = some ⟨vcl_WrongItemu_initu, vcd_WrongItemu_initu, .cell (some (.ref C_WrongItem)), vcs_WrongItemu_initu⟩)
    (u6_WrongItemu_initu : K.lookup C_WrongItem = some ⟨wcl_WrongItemu_initu, wcd_WrongItemu_initu, .cls wdt_WrongItemu_initu, wsl_WrongItemu_initu⟩)
    : ∃ fd : FuncData, (∀ (s : Shared) (u : Value), BindsTo s fd ⟨[u], []⟩ [("script", u)]) ∧ ∀ base : Heap, K.In base → base.Ns mainGlobals mg → FnG l.prog w K mg base CX0 8 fa fd ["script"] (spF K S_law) := by
  obtain ⟨a, T, e, b⟩ := tx_mk (P := l.prog) X G n_abs n_bool n_divmod n_int n_isinstance n_len n_list n_max n_range n_repr n_str n_tuple c_MOST_INDEX c_MOST_MEMBER c_MOST_LISTED a_is_listed l_is_listed e_is_listed k_is_listed a__law_source l__law_source e__law_source k__law_source a__law_pick l__law_pick e__law_pick k__law_pick a_law l_law e_law k_law a_is_integer l_is_integer e_is_integer k_is_integer a_check_number l_check_number e_check_number k_check_number a_checked_members l_checked_members e_checked_members k_checked_members a_least_period l_least_period e_least_period k_least_period a_reduced l_reduced e_reduced k_reduced a_is_member l_is_member e_is_member k_is_member a_NumberSetu_initu l_NumberSetu_initu e_NumberSetu_initu k_NumberSetu_initu a_NumberSetu_containsu l_NumberSetu_containsu e_NumberSetu_containsu k_NumberSetu_containsu a_NumberSet_least l_NumberSet_least e_NumberSet_least k_NumberSet_least a_NumberSet_lasting l_NumberSet_lasting e_NumberSet_lasting k_NumberSet_lasting a_NumberSet_gone l_NumberSet_gone e_NumberSet_gone k_NumberSet_gone a_NumberSet_listed l_NumberSet_listed e_NumberSet_listed k_NumberSet_listed a_NumberSet_counted l_NumberSet_counted e_NumberSet_counted k_NumberSet_counted a_form_of l_form_of e_form_of k_form_of a__law_inside l__law_inside e__law_inside k__law_inside a__law_below l__law_below e__law_below k__law_below a__law_refusals l__law_refusals e__law_refusals k__law_refusals a__law_once l__law_once e__law_once k__law_once g_NumberSet pg_NumberSet hd_NumberSet po_NumberSet sa_NumberSet mk_NumberSet if_NumberSet kc_NumberSet x_NumberSet_since x_NumberSet_period x_NumberSet_firsts x_NumberSet_later ps_NumberSetu_containsu ps_NumberSet_counted ps_NumberSet_gone ps_NumberSet_lasting ps_NumberSet_least ps_NumberSet_listed g_BadNumber g_BadMembers g_WrongThing g_WrongItem oc_BadNumber ov_BadNumber os_BadNumber ob_BadNumber oy_BadNumber ok_BadNumber xg1_BadNumber xg2_BadNumber xg4_BadNumber xn_BadNumber_thing oi_BadNumber sx1_BadNumber sx2_BadNumber sx3_BadNumber xm_BadNumber_BadNumber xm_BadNumber_BadMembers oc_BadMembers ov_BadMembers os_BadMembers ob_BadMembers oy_BadMembers ok_BadMembers xg1_BadMembers xg2_BadMembers xg4_BadMembers xn_BadMembers_place oi_BadMembers sx1_BadMembers sx2_BadMembers sx3_BadMembers xm_BadMembers_BadNumber xm_BadMembers_BadMembers l_WrongThingu_initu e_WrongThingu_initu ot_WrongThingu_initu u1_WrongThingu_initu u2_WrongThingu_initu u3_WrongThingu_initu u4 u5_WrongThingu_initu u6_WrongThingu_initu u7 u8 l_WrongItemu_initu e_WrongItemu_initu ot_WrongItemu_initu u1_WrongItemu_initu u2_WrongItemu_initu u3_WrongItemu_initu u5_WrongItemu_initu u6_WrongItemu_initu
  have e2 := hfa.symm.trans T.g_law
  cases e2
  exact ⟨a.d_law, b, fun base _ _ => ok_law T⟩
end
end K65
open PySem PySem.W in
theorem K65.walk {l : PySem.W.OpenLaw} {q : Program} {loose : List Str} {XP : (Str → Option Value) → Heap → Prop} {YP : World → Heap → Prop} {d : DefRec} {K : Params → PySem.W.Frag} (hn : l.most = some 63) (hdf : d.params.defaults = [])
    (hY : ∀ (w : World) (h : Heap), YP w h → (K w.params).In h)
    (F : ∀ (w : World) (mg : Str → Option Value) (fa : Addr) (h : Heap), (K w.params).In h → h.Ns mainGlobals mg → mg d.name = some (.ref fa) →
      ∃ fd : FuncData, (∀ (s : Shared) (u : Value), BindsTo s fd ⟨[u], []⟩ [("script", u)]) ∧ ∀ base : Heap, (K w.params).In base → base.Ns mainGlobals mg → BV.FnG l.prog w (K w.params) mg base L2.CX0 8 fa fd ["script"] (BV.spF (K w.params) K65.S_law)) :
    PySem.W.WalkO q loose XP YP l.row.toRowW d [] (fun f vs => PySem.call f vs) :=
  BV.walk_ofG (n := 63) (k := 8) (x := "script") (sp := fun w => BV.spF (K w.params) K65.S_law) hn (by decide) hdf ⟨rfl, by decide, by decide⟩ hY F (fun w H a ns hl hb _ hS => ⟨fun _ => False, [.scr ns], fun d => d = .bl true, fun _ z => z.elim, .cons (.scr (BV.ex_l (fun b o e => BV.hid_some.mpr ⟨fun z => z, e⟩) hS)) .nil, ⟨ns, rfl, hl, hb, rfl⟩, fun v H' d _ r e => by subst e; cases r; rfl⟩)
open PySem PySem.W PyProof.Rows in
set_option maxRecDepth 100000 in
set_option maxHeartbeats 0 in
theorem PySem.Challenge.cw_dwindlewise_k65_whole_number_sets_asked_holds : PySem.Challenge.rw_dwindlewise_k65_whole_number_sets_asked.Holds := by
  w_on; o_law; k_head; (case hw => w_witness2)
  k_fill
  refine K65.walk (l := PySem.Challenge.rw_dwindlewise_k65_whole_number_sets_asked) rfl rfl (fun w h Y => PySem.W.kIn_of Y) ?F
  case F =>
    intro w mg fa h KX G hmg
    refine' K65.law_mk KX G hmg ?q_n_abs ?q_n_bool ?q_n_divmod ?q_n_int ?q_n_isinstance ?q_n_len ?q_n_list ?q_n_max ?q_n_range ?q_n_repr ?q_n_str ?q_n_tuple ?q_c_MOST_INDEX ?q_c_MOST_MEMBER ?q_c_MOST_LISTED ?q_a_is_listed ?q_l_is_listed ?q_e_is_listed ?q_k_is_listed ?q_a__law_source ?q_l__law_source ?q_e__law_source ?q_k__law_source ?q_a__law_pick ?q_l__law_pick ?q_e__law_pick ?q_k__law_pick ?q_a_law ?q_l_law ?q_e_law ?q_k_law ?q_a_is_integer ?q_l_is_integer ?q_e_is_integer ?q_k_is_integer ?q_a_check_number ?q_l_check_number ?q_e_check_number ?q_k_check_number ?q_a_checked_members ?q_l_checked_members ?q_e_checked_members ?q_k_checked_members ?q_a_least_period ?q_l_least_period ?q_e_least_period ?q_k_least_period ?q_a_reduced ?q_l_reduced ?q_e_reduced ?q_k_reduced ?q_a_is_member ?q_l_is_member ?q_e_is_member ?q_k_is_member ?q_a_NumberSetu_initu ?q_l_NumberSetu_initu ?q_e_NumberSetu_initu ?q_k_NumberSetu_initu ?q_a_NumberSetu_containsu ?q_l_NumberSetu_containsu ?q_e_NumberSetu_containsu ?q_k_NumberSetu_containsu ?q_a_NumberSet_least ?q_l_NumberSet_least ?q_e_NumberSet_least ?q_k_NumberSet_least ?q_a_NumberSet_lasting ?q_l_NumberSet_lasting ?q_e_NumberSet_lasting ?q_k_NumberSet_lasting ?q_a_NumberSet_gone ?q_l_NumberSet_gone ?q_e_NumberSet_gone ?q_k_NumberSet_gone ?q_a_NumberSet_listed ?q_l_NumberSet_listed ?q_e_NumberSet_listed ?q_k_NumberSet_listed ?q_a_NumberSet_counted ?q_l_NumberSet_counted ?q_e_NumberSet_counted ?q_k_NumberSet_counted ?q_a_form_of ?q_l_form_of ?q_e_form_of ?q_k_form_of ?q_a__law_inside ?q_l__law_inside ?q_e__law_inside ?q_k__law_inside ?q_a__law_below ?q_l__law_below ?q_e__law_below ?q_k__law_below ?q_a__law_refusals ?q_l__law_refusals ?q_e__law_refusals ?q_k__law_refusals ?q_a__law_once ?q_l__law_once ?q_e__law_once ?q_k__law_once ?q_g_NumberSet ?q_pg_NumberSet ?q_hd_NumberSet ?q_po_NumberSet ?q_sa_NumberSet ?q_mk_NumberSet ?q_if_NumberSet ?q_kc_NumberSet ?q_x_NumberSet_since ?q_x_NumberSet_period ?q_x_NumberSet_firsts ?q_x_NumberSet_later ?q_ps_NumberSetu_containsu ?q_ps_NumberSet_counted ?q_ps_NumberSet_gone ?q_ps_NumberSet_lasting ?q_ps_NumberSet_least ?q_ps_NumberSet_listed ?q_g_BadNumber ?q_g_BadMembers ?q_g_WrongThing ?q_g_WrongItem ?q_oc_BadNumber ?q_ov_BadNumber ?q_os_BadNumber ?q_ob_BadNumber ?q_oy_BadNumber ?q_ok_BadNumber ?q_xg1_BadNumber ?q_xg2_BadNumber ?q_xg4_BadNumber ?q_xn_BadNumber_thing ?q_oi_BadNumber ?q_sx1_BadNumber ?q_sx2_BadNumber ?q_sx3_BadNumber ?q_xm_BadNumber_BadNumber ?q_xm_BadNumber_BadMembers ?q_oc_BadMembers ?q_ov_BadMembers ?q_os_BadMembers ?q_ob_BadMembers ?q_oy_BadMembers ?q_ok_BadMembers ?q_xg1_BadMembers ?q_xg2_BadMembers ?q_xg4_BadMembers ?q_xn_BadMembers_place ?q_oi_BadMembers ?q_sx1_BadMembers ?q_sx2_BadMembers ?q_sx3_BadMembers ?q_xm_BadMembers_BadNumber ?q_xm_BadMembers_BadMembers ?q_l_WrongThingu_initu ?q_e_WrongThingu_initu ?q_ot_WrongThingu_initu ?q_u1_WrongThingu_initu ?q_u2_WrongThingu_initu ?q_u3_WrongThingu_initu ?q_u4 ?q_u5_WrongThingu_initu ?q_u6_WrongThingu_initu ?q_u7 ?q_u8 ?q_l_WrongItemu_initu ?q_e_WrongItemu_initu ?q_ot_WrongItemu_initu ?q_u1_WrongItemu_initu ?q_u2_WrongItemu_initu ?q_u3_WrongItemu_initu ?q_u5_WrongItemu_initu ?q_u6_WrongItemu_initu
    (case q_g_NumberSet => k_is)
    (case q_g_BadNumber => k_is)
    (case q_g_BadMembers => k_is)
    (case q_g_WrongThing => k_is)
    (case q_g_WrongItem => k_is)
    (case q_n_abs => k_is)
    (case q_n_bool => k_is)
    (case q_n_divmod => k_is)
    (case q_n_int => k_is)
    (case q_n_isinstance => k_is)
    (case q_n_len => k_is)
    (case q_n_list => k_is)
    (case q_n_max => k_is)
    (case q_n_range => k_is)
    (case q_n_repr => k_is)
    (case q_n_str => k_is)
    (case q_n_tuple => k_is)
    (case q_c_MOST_INDEX => k_is)
    (case q_c_MOST_MEMBER => k_is)
    (case q_c_MOST_LISTED => k_is)
    (case q_a_is_listed => k_is)
    (case q_l_is_listed => k_is)
    (case q_e_is_listed => k_is)
    (case q_k_is_listed => k_is)
    (case q_a__law_source => k_is)
    (case q_l__law_source => k_is)
    (case q_e__law_source => k_is)
    (case q_k__law_source => k_is)
    (case q_a__law_pick => k_is)
    (case q_l__law_pick => k_is)
    (case q_e__law_pick => k_is)
    (case q_k__law_pick => k_is)
    (case q_a_law => k_is)
    (case q_l_law => k_is)
    (case q_e_law => k_is)
    (case q_k_law => k_is)
    (case q_a_is_integer => k_is)
    (case q_l_is_integer => k_is)
    (case q_e_is_integer => k_is)
    (case q_k_is_integer => k_is)
    (case q_a_check_number => k_is)
    (case q_l_check_number => k_is)
    (case q_e_check_number => k_is)
    (case q_k_check_number => k_is)
    (case q_a_checked_members => k_is)
    (case q_l_checked_members => k_is)
    (case q_e_checked_members => k_is)
    (case q_k_checked_members => k_is)
    (case q_a_least_period => k_is)
    (case q_l_least_period => k_is)
    (case q_e_least_period => k_is)
    (case q_k_least_period => k_is)
    (case q_a_reduced => k_is)
    (case q_l_reduced => k_is)
    (case q_e_reduced => k_is)
    (case q_k_reduced => k_is)
    (case q_a_is_member => k_is)
    (case q_l_is_member => k_is)
    (case q_e_is_member => k_is)
    (case q_k_is_member => k_is)
    (case q_a_NumberSetu_initu => k_is)
    (case q_l_NumberSetu_initu => k_is)
    (case q_e_NumberSetu_initu => k_is)
    (case q_k_NumberSetu_initu => k_is)
    (case q_a_NumberSetu_containsu => k_is)
    (case q_l_NumberSetu_containsu => k_is)
    (case q_e_NumberSetu_containsu => k_is)
    (case q_k_NumberSetu_containsu => k_is)
    (case q_a_NumberSet_least => k_is)
    (case q_l_NumberSet_least => k_is)
    (case q_e_NumberSet_least => k_is)
    (case q_k_NumberSet_least => k_is)
    (case q_a_NumberSet_lasting => k_is)
    (case q_l_NumberSet_lasting => k_is)
    (case q_e_NumberSet_lasting => k_is)
    (case q_k_NumberSet_lasting => k_is)
    (case q_a_NumberSet_gone => k_is)
    (case q_l_NumberSet_gone => k_is)
    (case q_e_NumberSet_gone => k_is)
    (case q_k_NumberSet_gone => k_is)
    (case q_a_NumberSet_listed => k_is)
    (case q_l_NumberSet_listed => k_is)
    (case q_e_NumberSet_listed => k_is)
    (case q_k_NumberSet_listed => k_is)
    (case q_a_NumberSet_counted => k_is)
    (case q_l_NumberSet_counted => k_is)
    (case q_e_NumberSet_counted => k_is)
    (case q_k_NumberSet_counted => k_is)
    (case q_a_form_of => k_is)
    (case q_l_form_of => k_is)
    (case q_e_form_of => k_is)
    (case q_k_form_of => k_is)
    (case q_a__law_inside => k_is)
    (case q_l__law_inside => k_is)
    (case q_e__law_inside => k_is)
    (case q_k__law_inside => k_is)
    (case q_a__law_below => k_is)
    (case q_l__law_below => k_is)
    (case q_e__law_below => k_is)
    (case q_k__law_below => k_is)
    (case q_a__law_refusals => k_is)
    (case q_l__law_refusals => k_is)
    (case q_e__law_refusals => k_is)
    (case q_k__law_refusals => k_is)
    (case q_a__law_once => k_is)
    (case q_l__law_once => k_is)
    (case q_e__law_once => k_is)
    (case q_k__law_once => k_is)
    (case q_pg_NumberSet => k_is)
    (case q_hd_NumberSet => k_is)
    (case q_po_NumberSet => k_is)
    (case q_sa_NumberSet => k_is)
    (case q_mk_NumberSet => k_is)
    (case q_if_NumberSet => k_is)
    (case q_kc_NumberSet => k_is)
    (case q_x_NumberSet_since => k_is)
    (case q_x_NumberSet_period => k_is)
    (case q_x_NumberSet_firsts => k_is)
    (case q_x_NumberSet_later => k_is)
    (case q_ps_NumberSetu_containsu => k_is)
    (case q_ps_NumberSet_counted => k_is)
    (case q_ps_NumberSet_gone => k_is)
    (case q_ps_NumberSet_lasting => k_is)
    (case q_ps_NumberSet_least => k_is)
    (case q_ps_NumberSet_listed => k_is)
    (case q_oc_BadNumber => k_is)
    (case q_ov_BadNumber => decide +kernel)
    (case q_os_BadNumber => k_is)
    (case q_ob_BadNumber => k_is)
    (case q_oy_BadNumber => k_is)
    (case q_ok_BadNumber => k_is)
    (case q_xg1_BadNumber => k_is)
    (case q_xg2_BadNumber => k_is)
    (case q_xg4_BadNumber => k_is)
    (case q_xn_BadNumber_thing => k_is)
    (case q_oi_BadNumber => k_is)
    (case q_sx1_BadNumber => k_is)
    (case q_sx2_BadNumber => ks_is)
    (case q_sx3_BadNumber => k_is)
    (case q_xm_BadNumber_BadNumber => kts_exm)
    (case q_xm_BadNumber_BadMembers => kts_exm)
    (case q_oc_BadMembers => k_is)
    (case q_ov_BadMembers => decide +kernel)
    (case q_os_BadMembers => k_is)
    (case q_ob_BadMembers => k_is)
    (case q_oy_BadMembers => k_is)
    (case q_ok_BadMembers => k_is)
    (case q_xg1_BadMembers => k_is)
    (case q_xg2_BadMembers => k_is)
    (case q_xg4_BadMembers => k_is)
    (case q_xn_BadMembers_place => k_is)
    (case q_oi_BadMembers => k_is)
    (case q_sx1_BadMembers => k_is)
    (case q_sx2_BadMembers => ks_is)
    (case q_sx3_BadMembers => k_is)
    (case q_xm_BadMembers_BadNumber => kts_exm)
    (case q_xm_BadMembers_BadMembers => kts_exm)
    (case q_l_WrongThingu_initu => k_is)
    (case q_e_WrongThingu_initu => k_is)
    (case q_ot_WrongThingu_initu => k_is)
    (case q_u1_WrongThingu_initu => k_is)
    (case q_u2_WrongThingu_initu => exact rfl)
    (case q_u3_WrongThingu_initu => decide +kernel)
    (case q_u4 => exact rfl)
    (case q_u5_WrongThingu_initu => k_is)
    (case q_u6_WrongThingu_initu => k_is)
    (case q_u7 => k_is)
    (case q_u8 => k_is)
    (case q_l_WrongItemu_initu => k_is)
    (case q_e_WrongItemu_initu => k_is)
    (case q_ot_WrongItemu_initu => k_is)
    (case q_u1_WrongItemu_initu => k_is)
    (case q_u2_WrongItemu_initu => exact rfl)
    (case q_u3_WrongItemu_initu => decide +kernel)
    (case q_u5_WrongItemu_initu => k_is)
    (case q_u6_WrongItemu_initu => k_is)
