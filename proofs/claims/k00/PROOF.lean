import PyProof.Rows.All
import Wide.All
import OpenK.AllK
import Wide.FinOn
import HandS.ForMost
import HandS.ForExc
import HandS.Evl
import HandS.HeadHook2
import HandS.Defaults
import HandS.Wide
import HandS.IsInst
import HandS.Gcd
import HandS.TryMany
import HandS.ExcInit
import HandS.ExcIs
import KE.KExcIs
import HandS.HotCalls
import HandS.HeadHook4
import HandS.Head0
import HandS.Head1
import HandS.Head2
import HandS.Head3
import HandS.HeadEnd
import PySem.Challenge.RW_neverworsethan_k00_fractions_by_cross_pr
set_option Elab.async false
set_option linter.all false
set_option maxRecDepth 100000
set_option maxHeartbeats 2000000
/-! Data trees over the hand layer: what a value stands for, what a frame owns. -/
namespace NW
open PySem L2
open Evl (Ex)

/-- plain data -/
inductive D where
  | non | bl (b : Bool) | int (i : Int) | str (x : Str)
  | lst (xs : List D) | tup (xs : List D) | fz (ns : List Int)
  | obj (c : Str) (fs : List (Str × D))
  | dK (kvs : List (Key × D)) | dT (kvs : List (List Key × D))
  | exc (x : Str) (fs : List (Str × D))

mutual
/-- v is this data, in the heap H -/
inductive Rep (K : PySem.W.Frag) (H : Hp) : V → D → Prop
  | non : Rep K H .non .non
  | bl (b : Bool) : Rep K H (.bl b) (.bl b)
  | int (i : Int) : Rep K H (.int i) (.int i)
  | str (x : Str) : Rep K H (.str x) (.str x)
  | lst {a : Addr} {xs : List V} {ds : List D} : H a = some (.lst xs) → Reps K H xs ds → Rep K H (.ref a) (.lst ds)
  | tup {a : Addr} {xs : List V} {ds : List D} : SqT K H a xs → Reps K H xs ds → Rep K H (.ref a) (.tup ds)
  | fz {a : Addr} {ns : List Int} : SqL K H a (ns.map V.int) → Rep K H (.ref a) (.fz ns)
  | obj {a dx : Addr} {c : Str} {fvs : List (Str × V)} {fs : List (Str × D)} : H a = some (.ins (He.ga K c) dx fvs) → RepF K H fvs fs → Rep K H (.ref a) (.obj c fs)
  | dK {a : Addr} {kvs : List (Key × V)} {kds : List (Key × D)} : H a = some (.dK kvs) → RepK K H kvs kds → Rep K H (.ref a) (.dK kds)
  | dT {a : Addr} {kvs : List (List Key × V)} {kds : List (List Key × D)} : H a = some (.dT kvs) → RepT K H kvs kds → Rep K H (.ref a) (.dT kds)
  | exc {a : Addr} {x : Str} {oe : Obj} {vs : Array Value} : H a = some (.frz oe (.own a)) → oe.cls = .ref (He.ga K x) → oe.data = .fields vs → oe.dict = Option.none → Rep K H (.ref a) (.exc x [])
  | exd {a dx : Addr} {x : Str} {oe : Obj} {vs : Array Value} {fvs : List (Str × V)} {fs : List (Str × D)} : H a = some (.frz oe (.own a)) → oe.cls = .ref (He.ga K x) → oe.data = .fields vs → oe.dict = some dx → H dx = some (.xd fvs) → RepF K H fvs fs → Rep K H (.ref a) (.exc x fs)
inductive Reps (K : PySem.W.Frag) (H : Hp) : List V → List D → Prop
  | nil : Reps K H [] []
  | cons {v : V} {vs : List V} {d : D} {ds : List D} : Rep K H v d → Reps K H vs ds → Reps K H (v :: vs) (d :: ds)
inductive RepF (K : PySem.W.Frag) (H : Hp) : List (Str × V) → List (Str × D) → Prop
  | nil : RepF K H [] []
  | cons {x : Str} {v : V} {vs : List (Str × V)} {d : D} {ds : List (Str × D)} : Rep K H v d → RepF K H vs ds → RepF K H ((x, v) :: vs) ((x, d) :: ds)
inductive RepK (K : PySem.W.Frag) (H : Hp) : List (Key × V) → List (Key × D) → Prop
  | nil : RepK K H [] []
  | cons {x : Key} {v : V} {vs : List (Key × V)} {d : D} {ds : List (Key × D)} : Rep K H v d → RepK K H vs ds → RepK K H ((x, v) :: vs) ((x, d) :: ds)
inductive RepT (K : PySem.W.Frag) (H : Hp) : List (List Key × V) → List (List Key × D) → Prop
  | nil : RepT K H [] []
  | cons {x : List Key} {v : V} {vs : List (List Key × V)} {d : D} {ds : List (List Key × D)} : Rep K H v d → RepT K H vs ds → RepT K H ((x, v) :: vs) ((x, d) :: ds)
end

section
variable {K : PySem.W.Frag} {H H' : Hp}
mutual
theorem Rep.mono (e : Ex H H') : ∀ {v : V} {d : D}, Rep K H v d → Rep K H' v d
  | _, _, .non => .non
  | _, _, .bl b => .bl b
  | _, _, .int i => .int i
  | _, _, .str x => .str x
  | _, _, .lst h r => .lst (e _ _ h) (Reps.mono e r)
  | _, _, .tup h r => .tup (Evl.ex_t e h) (Reps.mono e r)
  | _, _, .fz h => .fz (Evl.ex_l e h)
  | _, _, .obj h r => .obj (e _ _ h) (RepF.mono e r)
  | _, _, .dK h r => .dK (e _ _ h) (RepK.mono e r)
  | _, _, .dT h r => .dT (e _ _ h) (RepT.mono e r)
  | _, _, .exc h c d n => .exc (e _ _ h) c d n
  | _, _, .exd h c d n q r => .exd (e _ _ h) c d n (e _ _ q) (RepF.mono e r)
theorem Reps.mono (e : Ex H H') : ∀ {vs : List V} {ds : List D}, Reps K H vs ds → Reps K H' vs ds
  | _, _, .nil => .nil
  | _, _, .cons h r => .cons (Rep.mono e h) (Reps.mono e r)
theorem RepF.mono (e : Ex H H') : ∀ {vs : List (Str × V)} {ds : List (Str × D)}, RepF K H vs ds → RepF K H' vs ds
  | _, _, .nil => .nil
  | _, _, .cons h r => .cons (Rep.mono e h) (RepF.mono e r)
theorem RepK.mono (e : Ex H H') : ∀ {vs : List (Key × V)} {ds : List (Key × D)}, RepK K H vs ds → RepK K H' vs ds
  | _, _, .nil => .nil
  | _, _, .cons h r => .cons (Rep.mono e h) (RepK.mono e r)
theorem RepT.mono (e : Ex H H') : ∀ {vs : List (List Key × V)} {ds : List (List Key × D)}, RepT K H vs ds → RepT K H' vs ds
  | _, _, .nil => .nil
  | _, _, .cons h r => .cons (Rep.mono e h) (RepT.mono e r)
end
theorem Reps.len : ∀ {vs : List V} {ds : List D}, Reps K H vs ds → vs.length = ds.length
  | _, _, .nil => rfl
  | _, _, .cons _ r => by simp [Reps.len r]
theorem Reps.get : ∀ {vs : List V} {ds : List D} {i : Nat} {d : D}, Reps K H vs ds → ds[i]? = some d → ∃ v, vs[i]? = some v ∧ Rep K H v d
  | _, _, i, d, .nil, h => by simp at h
  | _, _, 0, d, .cons a r, h => by simp at h; subst h; exact ⟨_, rfl, a⟩
  | _, _, i + 1, d, .cons a r, h => by
    obtain ⟨v, h1, h2⟩ := Reps.get (i := i) (d := d) r (by simpa using h)
    exact ⟨v, by simpa using h1, h2⟩
theorem Reps.getV : ∀ {vs : List V} {ds : List D} {i : Nat} {v : V}, Reps K H vs ds → vs[i]? = some v → ∃ d, ds[i]? = some d ∧ Rep K H v d
  | _, _, i, d, .nil, h => by simp at h
  | _, _, 0, d, .cons a r, h => by simp at h; subst h; exact ⟨_, rfl, a⟩
  | _, _, i + 1, d, .cons a r, h => by
    obtain ⟨v, h1, h2⟩ := Reps.getV (i := i) (v := d) r (by simpa using h)
    exact ⟨v, by simpa using h1, h2⟩
theorem Reps.app : ∀ {vs ws : List V} {ds es : List D}, Reps K H vs ds → Reps K H ws es → Reps K H (vs ++ ws) (ds ++ es)
  | _, _, _, _, .nil, s => s
  | _, _, _, _, .cons a r, s => .cons a (Reps.app r s)
theorem Reps.take : ∀ {vs : List V} {ds : List D} (n : Nat), Reps K H vs ds → Reps K H (vs.take n) (ds.take n)
  | _, _, 0, _ => by simp; exact .nil
  | _, _, n + 1, .nil => .nil
  | _, _, n + 1, .cons a r => .cons a (Reps.take n r)
theorem Reps.drop : ∀ {vs : List V} {ds : List D} (n : Nat), Reps K H vs ds → Reps K H (vs.drop n) (ds.drop n)
  | _, _, 0, r => r
  | _, _, n + 1, .nil => .nil
  | _, _, n + 1, .cons a r => Reps.drop n r
theorem RepF.look : ∀ {vs : List (Str × V)} {ds : List (Str × D)} {f : Str} {d : D}, RepF K H vs ds → ds.lookup f = some d → ∃ v, vs.lookup f = some v ∧ Rep K H v d
  | _, _, f, d, .nil, h => by simp at h
  | _, _, f, d, .cons (x := x) a r, h => by
    rw [List.lookup_cons] at h ⊢
    by_cases c : (f == x) = true
    · rw [c] at h ⊢; simp at h; subst h; exact ⟨_, rfl, a⟩
    · rw [Bool.not_eq_true] at c; rw [c] at h ⊢; exact RepF.look r h
theorem RepF.none : ∀ {vs : List (Str × V)} {ds : List (Str × D)} {f : Str}, RepF K H vs ds → ds.lookup f = Option.none → vs.lookup f = Option.none
  | _, _, f, .nil, h => rfl
  | _, _, f, .cons (x := x) a r, h => by
    rw [List.lookup_cons] at h ⊢
    by_cases c : (f == x) = true
    · rw [c] at h; simp at h
    · rw [Bool.not_eq_true] at c; rw [c] at h ⊢; exact RepF.none r h
theorem Reps.ints : ∀ {vs : List V} {ns : List Int}, Reps K H vs (ns.map D.int) → vs = ns.map V.int
  | _, [], .nil => rfl
  | _, n :: ns, .cons (.int _) r => by simp [Reps.ints r]
end

/-! ### trees that a frame owns -/
/-- im: frozen; bo: borrowed for the call; the others: the frame's own -/
inductive M where
  | im (d : D) | bo (d : D)
  | lst (ms : List M) | tup (ms : List M)
  | obj (c : Str) (fs : List (Str × M))
  | dK (kvs : List (Key × M))
  | dT (kvs : List (List Key × M))
mutual
def M.toD : M → D
  | .im d => d
  | .bo d => d
  | .lst ms => .lst (M.toDs ms)
  | .tup ms => .tup (M.toDs ms)
  | .obj c fs => .obj c (M.toDf fs)
  | .dK kvs => .dK (M.toDk kvs)
  | .dT kvs => .dT (M.toDt kvs)
def M.toDs : List M → List D
  | [] => []
  | m :: ms => m.toD :: M.toDs ms
def M.toDf : List (Str × M) → List (Str × D)
  | [] => []
  | (x, m) :: ms => (x, m.toD) :: M.toDf ms
def M.toDk : List (Key × M) → List (Key × D)
  | [] => []
  | (x, m) :: ms => (x, m.toD) :: M.toDk ms
def M.toDt : List (List Key × M) → List (List Key × D)
  | [] => []
  | (x, m) :: ms => (x, m.toD) :: M.toDt ms
end
mutual
/-- nothing borrowed in it -/
def M.pure : M → Bool
  | .im _ => true
  | .bo _ => false
  | .lst ms => M.pures ms
  | .tup ms => M.pures ms
  | .obj _ fs => M.puref fs
  | .dK kvs => M.purek kvs
  | .dT kvs => M.puret kvs
def M.pures : List M → Bool
  | [] => true
  | m :: ms => m.pure && M.pures ms
def M.puref : List (Str × M) → Bool
  | [] => true
  | (_, m) :: ms => m.pure && M.puref ms
def M.purek : List (Key × M) → Bool
  | [] => true
  | (_, m) :: ms => m.pure && M.purek ms
def M.puret : List (List Key × M) → Bool
  | [] => true
  | (_, m) :: ms => m.pure && M.puret ms
end
/-- a frame's label: the owner, the place in its tree -/
abbrev Lb := Bool × Nat × List Nat
abbrev Lab := Addr → Option Lb
def sub (l : Option Lb) (k : Nat) : Option Lb := l.map fun (b, i, p) => (b, i, k :: p)
mutual
/-- v is this tree: F the frozen heap, H0 the heap at the entry, lab whose what is; l: the label of its root (none: whoever's) -/
inductive RM (K : PySem.W.Frag) (H0 F H : Hp) (lab : Lab) : Option Lb → M → V → Prop
  | im {l : Option Lb} {d : D} {v : V} : Rep K F v d → RM K H0 F H lab l (.im d) v
  | bo {l : Option Lb} {d : D} {v : V} : Rep K H0 v d → RM K H0 F H lab l (.bo d) v
  | lst {l : Option Lb} {a : Addr} {vs : List V} {ms : List M} : H a = some (.lst vs) → (∀ L, l = some L → lab a = some L) → RMs K H0 F H lab l 0 ms vs → RM K H0 F H lab l (.lst ms) (.ref a)
  | tup {l : Option Lb} {a : Addr} {vs : List V} {ms : List M} : H a = some (.tup vs) → (∀ L, l = some L → lab a = some L) → RMs K H0 F H lab l 0 ms vs → RM K H0 F H lab l (.tup ms) (.ref a)
  | obj {l : Option Lb} {a dx : Addr} {c : Str} {vs : List (Str × V)} {ms : List (Str × M)} : H a = some (.ins (He.ga K c) dx vs) → (∀ L, l = some L → lab a = some L) → RMf K H0 F H lab l 0 ms vs → RM K H0 F H lab l (.obj c ms) (.ref a)
  | dK {l : Option Lb} {a : Addr} {vs : List (Key × V)} {ms : List (Key × M)} : H a = some (.dK vs) → (∀ L, l = some L → lab a = some L) → RMk K H0 F H lab l 0 ms vs → RM K H0 F H lab l (.dK ms) (.ref a)
  | dT {l : Option Lb} {a : Addr} {vs : List (List Key × V)} {ms : List (List Key × M)} : H a = some (.dT vs) → (∀ L, l = some L → lab a = some L) → RMt K H0 F H lab l 0 ms vs → RM K H0 F H lab l (.dT ms) (.ref a)
inductive RMs (K : PySem.W.Frag) (H0 F H : Hp) (lab : Lab) : Option Lb → Nat → List M → List V → Prop
  | nil {l : Option Lb} {k : Nat} : RMs K H0 F H lab l k [] []
  | cons {l : Option Lb} {k : Nat} {m : M} {v : V} {ms : List M} {vs : List V} : RM K H0 F H lab (sub l k) m v → RMs K H0 F H lab l (k + 1) ms vs → RMs K H0 F H lab l k (m :: ms) (v :: vs)
inductive RMf (K : PySem.W.Frag) (H0 F H : Hp) (lab : Lab) : Option Lb → Nat → List (Str × M) → List (Str × V) → Prop
  | nil {l : Option Lb} {k : Nat} : RMf K H0 F H lab l k [] []
  | cons {l : Option Lb} {k : Nat} {x : Str} {m : M} {v : V} {ms : List (Str × M)} {vs : List (Str × V)} : RM K H0 F H lab (sub l k) m v → RMf K H0 F H lab l (k + 1) ms vs → RMf K H0 F H lab l k ((x, m) :: ms) ((x, v) :: vs)
inductive RMk (K : PySem.W.Frag) (H0 F H : Hp) (lab : Lab) : Option Lb → Nat → List (Key × M) → List (Key × V) → Prop
  | nil {l : Option Lb} {k : Nat} : RMk K H0 F H lab l k [] []
  | cons {l : Option Lb} {k : Nat} {x : Key} {m : M} {v : V} {ms : List (Key × M)} {vs : List (Key × V)} : RM K H0 F H lab (sub l k) m v → RMk K H0 F H lab l (k + 1) ms vs → RMk K H0 F H lab l k ((x, m) :: ms) ((x, v) :: vs)
inductive RMt (K : PySem.W.Frag) (H0 F H : Hp) (lab : Lab) : Option Lb → Nat → List (List Key × M) → List (List Key × V) → Prop
  | nil {l : Option Lb} {k : Nat} : RMt K H0 F H lab l k [] []
  | cons {l : Option Lb} {k : Nat} {x : List Key} {m : M} {v : V} {ms : List (List Key × M)} {vs : List (List Key × V)} : RM K H0 F H lab (sub l k) m v → RMt K H0 F H lab l (k + 1) ms vs → RMt K H0 F H lab l k ((x, m) :: ms) ((x, v) :: vs)
end
/-- the label l2 lies at or below l -/
def Under (l L : Lb) : Prop := l.1 = L.1 ∧ l.2.1 = L.2.1 ∧ ∃ q, L.2.2 = q ++ l.2.2
theorem Under.sub {l L : Lb} {k : Nat} (h : Under (l.1, l.2.1, k :: l.2.2) L) : Under l L := by
  obtain ⟨h1, h2, q, h3⟩ := h
  exact ⟨h1, h2, q ++ [k], by rw [h3]; simp⟩
theorem Under.refl (l : Lb) : Under l l := ⟨rfl, rfl, [], rfl⟩

section
variable {K : PySem.W.Frag} {H0 F F' H H' : Hp} {lab lab' : Lab}
mutual
theorem RM.keep : ∀ {l : Option Lb} {m : M} {v : V}, RM K H0 F H lab l m v → Ex F F' → (∀ a o, (∀ l', l = some l' → ∃ L, lab a = some L ∧ Under l' L) → H a = some o → H' a = some o) → (∀ a l' L, l = some l' → lab a = some L → Under l' L → lab' a = some L) → RM K H0 F' H' lab' l m v
  | _, _, _, .im r, e, _, _ => .im (r.mono e)
  | _, _, _, .bo r, _, _, _ => .bo r
  | _, _, _, .lst h o r, e, k, q => .lst (k _ _ (fun l' hl => ⟨l', o l' hl, .refl _⟩) h) (fun L hL => q _ L L hL (o L hL) (.refl _)) (RMs.keep r e k q)
  | _, _, _, .tup h o r, e, k, q => .tup (k _ _ (fun l' hl => ⟨l', o l' hl, .refl _⟩) h) (fun L hL => q _ L L hL (o L hL) (.refl _)) (RMs.keep r e k q)
  | _, _, _, .obj h o r, e, k, q => .obj (k _ _ (fun l' hl => ⟨l', o l' hl, .refl _⟩) h) (fun L hL => q _ L L hL (o L hL) (.refl _)) (RMf.keep r e k q)
  | _, _, _, .dK h o r, e, k, q => .dK (k _ _ (fun l' hl => ⟨l', o l' hl, .refl _⟩) h) (fun L hL => q _ L L hL (o L hL) (.refl _)) (RMk.keep r e k q)
  | _, _, _, .dT h o r, e, k, q => .dT (k _ _ (fun l' hl => ⟨l', o l' hl, .refl _⟩) h) (fun L hL => q _ L L hL (o L hL) (.refl _)) (RMt.keep r e k q)
theorem RMs.keep : ∀ {l : Option Lb} {n : Nat} {ms : List M} {vs : List V}, RMs K H0 F H lab l n ms vs → Ex F F' → (∀ a o, (∀ l', l = some l' → ∃ L, lab a = some L ∧ Under l' L) → H a = some o → H' a = some o) → (∀ a l' L, l = some l' → lab a = some L → Under l' L → lab' a = some L) → RMs K H0 F' H' lab' l n ms vs
  | _, _, _, _, .nil, _, _, _ => .nil
  | l, n, _, _, .cons h r, e, k, q => .cons (RM.keep h e (fun a o w => k a o fun l' hl => by
      subst hl
      obtain ⟨L, w1, w2⟩ := w _ rfl
      exact ⟨L, w1, w2.sub⟩) (fun a l' L hl w1 w2 => by
      cases l with
      | none => exact nomatch hl
      | some l0 => cases hl; exact q a l0 L rfl w1 w2.sub)) (RMs.keep r e k q)
theorem RMf.keep : ∀ {l : Option Lb} {n : Nat} {ms : List (Str × M)} {vs : List (Str × V)}, RMf K H0 F H lab l n ms vs → Ex F F' → (∀ a o, (∀ l', l = some l' → ∃ L, lab a = some L ∧ Under l' L) → H a = some o → H' a = some o) → (∀ a l' L, l = some l' → lab a = some L → Under l' L → lab' a = some L) → RMf K H0 F' H' lab' l n ms vs
  | _, _, _, _, .nil, _, _, _ => .nil
  | l, n, _, _, .cons h r, e, k, q => .cons (RM.keep h e (fun a o w => k a o fun l' hl => by
      subst hl
      obtain ⟨L, w1, w2⟩ := w _ rfl
      exact ⟨L, w1, w2.sub⟩) (fun a l' L hl w1 w2 => by
      cases l with
      | none => exact nomatch hl
      | some l0 => cases hl; exact q a l0 L rfl w1 w2.sub)) (RMf.keep r e k q)
theorem RMk.keep : ∀ {l : Option Lb} {n : Nat} {ms : List (Key × M)} {vs : List (Key × V)}, RMk K H0 F H lab l n ms vs → Ex F F' → (∀ a o, (∀ l', l = some l' → ∃ L, lab a = some L ∧ Under l' L) → H a = some o → H' a = some o) → (∀ a l' L, l = some l' → lab a = some L → Under l' L → lab' a = some L) → RMk K H0 F' H' lab' l n ms vs
  | _, _, _, _, .nil, _, _, _ => .nil
  | l, n, _, _, .cons h r, e, k, q => .cons (RM.keep h e (fun a o w => k a o fun l' hl => by
      subst hl
      obtain ⟨L, w1, w2⟩ := w _ rfl
      exact ⟨L, w1, w2.sub⟩) (fun a l' L hl w1 w2 => by
      cases l with
      | none => exact nomatch hl
      | some l0 => cases hl; exact q a l0 L rfl w1 w2.sub)) (RMk.keep r e k q)
theorem RMt.keep : ∀ {l : Option Lb} {n : Nat} {ms : List (List Key × M)} {vs : List (List Key × V)}, RMt K H0 F H lab l n ms vs → Ex F F' → (∀ a o, (∀ l', l = some l' → ∃ L, lab a = some L ∧ Under l' L) → H a = some o → H' a = some o) → (∀ a l' L, l = some l' → lab a = some L → Under l' L → lab' a = some L) → RMt K H0 F' H' lab' l n ms vs
  | _, _, _, _, .nil, _, _, _ => .nil
  | l, n, _, _, .cons h r, e, k, q => .cons (RM.keep h e (fun a o w => k a o fun l' hl => by
      subst hl
      obtain ⟨L, w1, w2⟩ := w _ rfl
      exact ⟨L, w1, w2.sub⟩) (fun a l' L hl w1 w2 => by
      cases l with
      | none => exact nomatch hl
      | some l0 => cases hl; exact q a l0 L rfl w1 w2.sub)) (RMt.keep r e k q)
end
end

/-- a label moved: the root l becomes l' -/
def Moved (lab lab' : Lab) (l l' : Option Lb) : Prop := ∀ a b b' q, l' = some b' → l = some b → lab a = some (b.1, b.2.1, q ++ b.2.2) → lab' a = some (b'.1, b'.2.1, q ++ b'.2.2)
theorem Moved.sub {lab lab' : Lab} {l l' : Option Lb} (h : Moved lab lab' l l') (k : Nat) : Moved lab lab' (NW.sub l k) (NW.sub l' k) := by
  intro a b b' q e' e w
  cases l with
  | none => exact nomatch e
  | some l0 =>
    cases l' with
    | none => exact nomatch e'
    | some l1 =>
      obtain ⟨b1, i1, p1⟩ := l1
      obtain ⟨b0, i0, p0⟩ := l0
      cases e'; cases e
      have := h a (b0, i0, p0) (b1, i1, p1) (q ++ [k]) rfl rfl (by simpa using w)
      simpa using this
section
variable {K : PySem.W.Frag} {H0 F H : Hp} {lab lab' : Lab}
theorem mv {l l' : Option Lb} {a : Addr} (o : ∀ L, l = some L → lab a = some L) (e : Moved lab lab' l l') (n : l = none → l' = none) : ∀ L, l' = some L → lab' a = some L := by
  intro L hL
  cases l with
  | none => rw [n rfl] at hL; exact nomatch hL
  | some b => have := e a b L [] hL rfl (by simpa using o b rfl); simpa using this
theorem sn {l l' : Option Lb} {k : Nat} (n : l = none → l' = none) : NW.sub l k = none → NW.sub l' k = none := by
  intro h
  cases l with
  | none => rw [n rfl]; rfl
  | some b => exact nomatch h
mutual
theorem RM.move : ∀ {l l' : Option Lb} {m : M} {v : V}, RM K H0 F H lab l m v → Moved lab lab' l l' → (l = none → l' = none) → RM K H0 F H lab' l' m v
  | _, _, _, _, .im r, _, _ => .im r
  | _, _, _, _, .bo r, _, _ => .bo r
  | _, _, _, _, .lst h o r, e, n => .lst h (mv o e n) (RMs.move r e n)
  | _, _, _, _, .tup h o r, e, n => .tup h (mv o e n) (RMs.move r e n)
  | _, _, _, _, .obj h o r, e, n => .obj h (mv o e n) (RMf.move r e n)
  | _, _, _, _, .dK h o r, e, n => .dK h (mv o e n) (RMk.move r e n)
  | _, _, _, _, .dT h o r, e, n => .dT h (mv o e n) (RMt.move r e n)
theorem RMs.move : ∀ {l l' : Option Lb} {n : Nat} {ms : List M} {vs : List V}, RMs K H0 F H lab l n ms vs → Moved lab lab' l l' → (l = none → l' = none) → RMs K H0 F H lab' l' n ms vs
  | _, _, _, _, _, .nil, _, _ => .nil
  | _, _, _, _, _, .cons h r, e, n => .cons (RM.move h (e.sub _) (sn n)) (RMs.move r e n)
theorem RMf.move : ∀ {l l' : Option Lb} {n : Nat} {ms : List (Str × M)} {vs : List (Str × V)}, RMf K H0 F H lab l n ms vs → Moved lab lab' l l' → (l = none → l' = none) → RMf K H0 F H lab' l' n ms vs
  | _, _, _, _, _, .nil, _, _ => .nil
  | _, _, _, _, _, .cons h r, e, n => .cons (RM.move h (e.sub _) (sn n)) (RMf.move r e n)
theorem RMk.move : ∀ {l l' : Option Lb} {n : Nat} {ms : List (Key × M)} {vs : List (Key × V)}, RMk K H0 F H lab l n ms vs → Moved lab lab' l l' → (l = none → l' = none) → RMk K H0 F H lab' l' n ms vs
  | _, _, _, _, _, .nil, _, _ => .nil
  | _, _, _, _, _, .cons h r, e, n => .cons (RM.move h (e.sub _) (sn n)) (RMk.move r e n)
theorem RMt.move : ∀ {l l' : Option Lb} {n : Nat} {ms : List (List Key × M)} {vs : List (List Key × V)}, RMt K H0 F H lab l n ms vs → Moved lab lab' l l' → (l = none → l' = none) → RMt K H0 F H lab' l' n ms vs
  | _, _, _, _, _, .nil, _, _ => .nil
  | _, _, _, _, _, .cons h r, e, n => .cons (RM.move h (e.sub _) (sn n)) (RMt.move r e n)
end
end
section
variable {K : PySem.W.Frag} {H0 F H : Hp} {lab : Lab}
/-! a tree is data -/
mutual
theorem RM.data (e0 : Ex H0 H) (e : Ex F H) : ∀ {l : Option Lb} {m : M} {v : V}, RM K H0 F H lab l m v → Rep K H v m.toD
  | _, _, _, .im r => r.mono e
  | _, _, _, .bo r => r.mono e0
  | _, _, _, .lst h _ r => by rw [M.toD]; exact .lst h (RMs.data e0 e r)
  | _, _, _, .tup h _ r => by rw [M.toD]; exact .tup (SqT.of h) (RMs.data e0 e r)
  | _, _, _, .obj h _ r => by rw [M.toD]; exact .obj h (RMf.data e0 e r)
  | _, _, _, .dK h _ r => by rw [M.toD]; exact .dK h (RMk.data e0 e r)
  | _, _, _, .dT h _ r => by rw [M.toD]; exact .dT h (RMt.data e0 e r)
theorem RMs.data (e0 : Ex H0 H) (e : Ex F H) : ∀ {l : Option Lb} {n : Nat} {ms : List M} {vs : List V}, RMs K H0 F H lab l n ms vs → Reps K H vs (M.toDs ms)
  | _, _, _, _, .nil => by rw [M.toDs]; exact .nil
  | _, _, _, _, .cons h r => by rw [M.toDs]; exact .cons (RM.data e0 e h) (RMs.data e0 e r)
theorem RMf.data (e0 : Ex H0 H) (e : Ex F H) : ∀ {l : Option Lb} {n : Nat} {ms : List (Str × M)} {vs : List (Str × V)}, RMf K H0 F H lab l n ms vs → RepF K H vs (M.toDf ms)
  | _, _, _, _, .nil => by rw [M.toDf]; exact .nil
  | _, _, _, _, .cons h r => by rw [M.toDf]; exact .cons (RM.data e0 e h) (RMf.data e0 e r)
theorem RMk.data (e0 : Ex H0 H) (e : Ex F H) : ∀ {l : Option Lb} {n : Nat} {ms : List (Key × M)} {vs : List (Key × V)}, RMk K H0 F H lab l n ms vs → RepK K H vs (M.toDk ms)
  | _, _, _, _, .nil => by rw [M.toDk]; exact .nil
  | _, _, _, _, .cons h r => by rw [M.toDk]; exact .cons (RM.data e0 e h) (RMk.data e0 e r)
theorem RMt.data (e0 : Ex H0 H) (e : Ex F H) : ∀ {l : Option Lb} {n : Nat} {ms : List (List Key × M)} {vs : List (List Key × V)}, RMt K H0 F H lab l n ms vs → RepT K H vs (M.toDt ms)
  | _, _, _, _, .nil => by rw [M.toDt]; exact .nil
  | _, _, _, _, .cons h r => by rw [M.toDt]; exact .cons (RM.data e0 e h) (RMt.data e0 e r)
end
/-! a tree without borrowed parts, frozen: G holds F and what lies at or below its label -/
mutual
theorem RM.froz {G : Hp} (e : Ex F G) : ∀ {b : Lb} {m : M} {v : V}, RM K H0 F H lab (some b) m v → m.pure = true → (∀ a o L, lab a = some L → Under b L → H a = some o → G a = some o) → Rep K G v m.toD
  | _, _, _, .im r, _, _ => r.mono e
  | _, _, _, .bo r, p, _ => by simp [M.pure] at p
  | b, _, _, .lst h w r, p, k => by rw [M.pure] at p; rw [M.toD]; exact .lst (k _ _ _ (w b rfl) (.refl b) h) (RMs.froz e r p k)
  | b, _, _, .tup h w r, p, k => by rw [M.pure] at p; rw [M.toD]; exact .tup (SqT.of (k _ _ _ (w b rfl) (.refl b) h)) (RMs.froz e r p k)
  | b, _, _, .obj h w r, p, k => by rw [M.pure] at p; rw [M.toD]; exact .obj (k _ _ _ (w b rfl) (.refl b) h) (RMf.froz e r p k)
  | b, _, _, .dK h w r, p, k => by rw [M.pure] at p; rw [M.toD]; exact .dK (k _ _ _ (w b rfl) (.refl b) h) (RMk.froz e r p k)
  | b, _, _, .dT h w r, p, k => by rw [M.pure] at p; rw [M.toD]; exact .dT (k _ _ _ (w b rfl) (.refl b) h) (RMt.froz e r p k)
theorem RMs.froz {G : Hp} (e : Ex F G) : ∀ {b : Lb} {n : Nat} {ms : List M} {vs : List V}, RMs K H0 F H lab (some b) n ms vs → M.pures ms = true → (∀ a o L, lab a = some L → Under b L → H a = some o → G a = some o) → Reps K G vs (M.toDs ms)
  | _, _, _, _, .nil, _, _ => by rw [M.toDs]; exact .nil
  | _, _, _, _, .cons h r, p, k => by rw [M.pures, Bool.and_eq_true] at p; rw [M.toDs]; exact .cons (RM.froz e h p.1 fun a o L w u => k a o L w u.sub) (RMs.froz e r p.2 k)
theorem RMf.froz {G : Hp} (e : Ex F G) : ∀ {b : Lb} {n : Nat} {ms : List (Str × M)} {vs : List (Str × V)}, RMf K H0 F H lab (some b) n ms vs → M.puref ms = true → (∀ a o L, lab a = some L → Under b L → H a = some o → G a = some o) → RepF K G vs (M.toDf ms)
  | _, _, _, _, .nil, _, _ => by rw [M.toDf]; exact .nil
  | _, _, _, _, .cons h r, p, k => by rw [M.puref, Bool.and_eq_true] at p; rw [M.toDf]; exact .cons (RM.froz e h p.1 fun a o L w u => k a o L w u.sub) (RMf.froz e r p.2 k)
theorem RMk.froz {G : Hp} (e : Ex F G) : ∀ {b : Lb} {n : Nat} {ms : List (Key × M)} {vs : List (Key × V)}, RMk K H0 F H lab (some b) n ms vs → M.purek ms = true → (∀ a o L, lab a = some L → Under b L → H a = some o → G a = some o) → RepK K G vs (M.toDk ms)
  | _, _, _, _, .nil, _, _ => by rw [M.toDk]; exact .nil
  | _, _, _, _, .cons h r, p, k => by rw [M.purek, Bool.and_eq_true] at p; rw [M.toDk]; exact .cons (RM.froz e h p.1 fun a o L w u => k a o L w u.sub) (RMk.froz e r p.2 k)
theorem RMt.froz {G : Hp} (e : Ex F G) : ∀ {b : Lb} {n : Nat} {ms : List (List Key × M)} {vs : List (List Key × V)}, RMt K H0 F H lab (some b) n ms vs → M.puret ms = true → (∀ a o L, lab a = some L → Under b L → H a = some o → G a = some o) → RepT K G vs (M.toDt ms)
  | _, _, _, _, .nil, _, _ => by rw [M.toDt]; exact .nil
  | _, _, _, _, .cons h r, p, k => by rw [M.puret, Bool.and_eq_true] at p; rw [M.toDt]; exact .cons (RM.froz e h p.1 fun a o L w u => k a o L w u.sub) (RMt.froz e r p.2 k)
end
end
end NW
set_option Elab.async false
set_option linter.all false
set_option maxRecDepth 100000
set_option maxHeartbeats 2000000
namespace NW
open PySem L2
open Evl (Ex)

/-- a value on the way: a tree of its own, or a look at another's -/
inductive Cl where
  | own (m : M) | vw (m : M)
def Cl.m : Cl → M
  | .own m => m
  | .vw m => m
def Cl.toD (c : Cl) : D := c.m.toD
def view : M → Cl
  | .im d => .own (.im d)
  | .bo d => .own (.bo d)
  | m => .vw m
abbrev Env := List (Option M)
abbrev Tm := List (Cl × V)
def RC (K : PySem.W.Frag) (H0 F H : Hp) (lab : Lab) (j : Nat) : Cl → V → Prop
  | .own m, v => RM K H0 F H lab (some (true, j, [])) m v
  | .vw m, v => RM K H0 F H lab none m v
structure Fra (K : PySem.W.Frag) (H0 F0 : Hp) (env : Env) (σ : L2.St) (tm : Tm) (H F : Hp) (lab : Lab) : Prop where
  e0 : Ex H0 H
  f0 : Ex F0 F
  fe : Ex F H
  new : ∀ a o, F a = some o → F0 a = some o ∨ H0 a = none
  own : ∀ a L, lab a = some L → F a = none ∧ H0 a = none ∧ ∃ o, H a = some o
  len : env.length = σ.length
  slot : ∀ (i : Nat) (m : M), env[i]? = some (some m) → ∃ v, σ[i]? = some (some v) ∧ RM K H0 F H lab (some (false, i, [])) m v
  tmp : ∀ (j : Nat) (c : Cl) (v : V), tm[j]? = some (c, v) → RC K H0 F H lab j c v
def St (K : PySem.W.Frag) (H0 F0 : Hp) (env : Env) (σ : L2.St) (tm : Tm) (H : Hp) : Prop := ∃ F lab, Fra K H0 F0 env σ tm H F lab
section
variable {K : PySem.W.Frag} {H0 F0 F F' H H' : Hp} {env : Env} {σ : L2.St} {tm ts : Tm} {lab lab' : Lab} {c : Cl} {v : V} {d : D} {m : M} {i j : Nat}
theorem RM.any {l : Option Lb} (r : RM K H0 F H lab l m v) : RM K H0 F H lab none m v :=
  r.move (fun a b b' q e' => nomatch e') (fun _ => rfl)
theorem RC.any (r : RC K H0 F H lab j c v) : RM K H0 F H lab none c.m v := by
  cases c with
  | own m => exact RM.any r
  | vw m => exact r
theorem RC.data (e0 : Ex H0 H) (fe : Ex F H) (r : RC K H0 F H lab j c v) : Rep K H v c.toD := RM.data e0 fe r.any
/-- temps forgotten -/
theorem St.fewer (h : St K H0 F0 env σ tm H) (q : ∀ (j : Nat) (x : Cl × V), ts[j]? = some x → tm[j]? = some x) : St K H0 F0 env σ ts H := by
  obtain ⟨F, lab, x⟩ := h
  exact ⟨F, lab, { x with tmp := fun j c v e => x.tmp j c v (q j _ e) }⟩
theorem St.drop (h : St K H0 F0 env σ (tm ++ ts) H) : St K H0 F0 env σ tm H :=
  h.fewer fun j x e => by
    have := (List.getElem?_eq_some_iff.mp e).1
    rw [List.getElem?_append_left this]; exact e
theorem St.data (h : St K H0 F0 env σ tm H) (e : tm[j]? = some (c, v)) : Rep K H v c.toD := by
  obtain ⟨F, lab, x⟩ := h
  exact (x.tmp j c v e).data x.e0 x.fe
theorem last_get {α : Type} (l : List α) (x : α) : (l ++ [x])[l.length]? = some x := by simp
theorem St.last (h : St K H0 F0 env σ (tm ++ [(c, v)]) H) : Rep K H v c.toD := h.data (last_get tm _)
theorem St.at (h : St K H0 F0 env σ (tm ++ (c, v) :: ts) H) : Rep K H v c.toD := h.data (j := tm.length) (by simp)
/-- what the frame keeps where the heap grows -/
theorem RM.ext {l : Option Lb} (r : RM K H0 F H lab l m v) (e : Ex H H') : RM K H0 F H' lab l m v := r.keep (fun _ _ h => h) (fun a o _ h => e a o h) (fun _ _ _ _ h _ => h)
theorem RC.ext (r : RC K H0 F H lab j c v) (e : Ex H H') : RC K H0 F H' lab j c v := by
  cases c with
  | own m => exact RM.ext r e
  | vw m => exact RM.ext r e
theorem St.ext (h : St K H0 F0 env σ tm H) (e : Ex H H') : St K H0 F0 env σ tm H' := by
  obtain ⟨F, lab, x⟩ := h
  refine ⟨F, lab, ⟨x.e0.trans e, x.f0, x.fe.trans e, x.new, fun a L w => ?_, x.len, fun i m w => ?_, fun j c v w => (x.tmp j c v w).ext e⟩⟩
  · obtain ⟨h1, h2, o, h3⟩ := x.own a L w
    exact ⟨h1, h2, o, e a o h3⟩
  · obtain ⟨v, h1, h2⟩ := x.slot i m w
    exact ⟨v, h1, h2.ext e⟩
theorem Fra.extF {H' F' : Hp} (x : Fra K H0 F0 env σ tm H F lab) (e : Ex H H') (f1 : Ex F F') (f2 : Ex F' H') (f3 : ∀ a o, F' a = some o → F a = some o ∨ H a = none) : Fra K H0 F0 env σ tm H' F' lab := by
  refine ⟨x.e0.trans e, x.f0.trans f1, f2, fun a o h => ?_, fun a L w => ?_, x.len, fun i m w => ?_, fun j c v w => ?_⟩
  · rcases f3 a o h with h | h
    · exact x.new a o h
    · refine .inr ?_
      cases q : H0 a with
      | none => rfl
      | some o => have := x.e0 a o q; rw [h] at this; exact nomatch this
  · obtain ⟨h1, h2, o, h3⟩ := x.own a L w
    refine ⟨?_, h2, o, e a o h3⟩
    cases q : F' a with
    | none => rfl
    | some u =>
      rcases f3 a u q with h | h
      · rw [h1] at h; exact nomatch h
      · rw [h3] at h; exact nomatch h
  · obtain ⟨v, h1, h2⟩ := x.slot i m w
    exact ⟨v, h1, h2.keep f1 (fun a o _ h => e a o h) (fun a l L _ h _ => h)⟩
  · have r := x.tmp j c v w
    cases c with
    | own m => exact RM.keep r f1 (fun a o _ h => e a o h) (fun a l L _ h _ => h)
    | vw m => exact RM.keep r f1 (fun a o _ h => e a o h) (fun a l L _ h _ => h)
/-- labels of the temps from J on forgotten -/
def erase (lab : Lab) (J : Nat) : Lab := fun a => match lab a with
  | some (true, j, q) => if j < J then some (true, j, q) else none
  | x => x
theorem erase_some {a : Addr} {J : Nat} {L : Lb} (h : erase lab J a = some L) : lab a = some L := by
  unfold erase at h
  split at h
  · split at h
    · rename_i e _; rw [e]; exact h
    · exact nomatch h
  · exact h
theorem erase_f {a : Addr} {J i : Nat} {q : List Nat} (h : lab a = some (false, i, q)) : erase lab J a = some (false, i, q) := by
  unfold erase; rw [h]
theorem erase_t {a : Addr} {J j : Nat} {q : List Nat} (h : lab a = some (true, j, q)) (hj : j < J) : erase lab J a = some (true, j, q) := by
  unfold erase; rw [h]; simp [hj]
theorem RM.erased {J : Nat} (r : RM K H0 F H lab (some (false, i, [])) m v) : RM K H0 F H (erase lab J) (some (false, i, [])) m v :=
  r.keep (fun _ _ h => h) (fun _ _ _ h => h) (fun a l' L e w u => by
    cases e
    obtain ⟨b, i', p⟩ := L
    obtain ⟨h1, h2, _⟩ := u
    simp at h1 h2; subst h1 h2
    exact erase_f w)
theorem RC.erased {J : Nat} (r : RC K H0 F H lab j c v) (hj : j < J) : RC K H0 F H (erase lab J) j c v := by
  cases c with
  | own m =>
    refine RM.keep r (fun _ _ h => h) (fun _ _ _ h => h) (fun a l' L e w u => ?_)
    cases e
    obtain ⟨b, i', p⟩ := L
    obtain ⟨h1, h2, _⟩ := u
    simp at h1 h2; subst h1 h2
    exact erase_t w hj
  | vw m => exact RM.keep r (fun _ _ h => h) (fun _ _ _ h => h) (fun _ _ _ e => nomatch e)
theorem Fra.erased (x : Fra K H0 F0 env σ tm H F lab) : Fra K H0 F0 env σ tm H F (erase lab tm.length) :=
  { x with
    own := fun a L w => x.own a L (erase_some w)
    slot := fun i m w => by
      obtain ⟨v, h1, h2⟩ := x.slot i m w
      exact ⟨v, h1, h2.erased⟩
    tmp := fun j c v w => (x.tmp j c v w).erased (List.getElem?_eq_some_iff.mp w).1 }
theorem erase_ge {a : Addr} {J j : Nat} {q : List Nat} (hj : J ≤ j) : erase lab J a ≠ some (true, j, q) := by
  intro h
  have := erase_some h
  unfold erase at h
  rw [this] at h
  simp at h
  omega
theorem get_push {α : Type} {l : List α} {x y : α} {j : Nat} (h : (l ++ [x])[j]? = some y) : (j < l.length ∧ l[j]? = some y) ∨ (j = l.length ∧ y = x) := by
  rcases Nat.lt_trichotomy j l.length with c | c | c
  · rw [List.getElem?_append_left c] at h; exact .inl ⟨c, h⟩
  · subst c; rw [last_get] at h; exact .inr ⟨rfl, (Option.some.inj h).symm⟩
  · rw [List.getElem?_eq_none (by simp; omega)] at h; exact nomatch h
/-- a temp that wants no label of its own -/
theorem Fra.push (x : Fra K H0 F0 env σ tm H F lab) (r : RC K H0 F H lab tm.length c v) : Fra K H0 F0 env σ (tm ++ [(c, v)]) H F lab :=
  { x with
    tmp := fun j c' v' w => by
      rcases get_push w with ⟨_, e⟩ | ⟨rfl, e⟩
      · exact x.tmp j c' v' e
      · cases e; exact r }
theorem St.push_im (h : St K H0 F0 env σ tm H) (r : ∀ G, Rep K G v d) : St K H0 F0 env σ (tm ++ [(.own (.im d), v)]) H := by
  obtain ⟨F, lab, x⟩ := h
  exact ⟨F, lab, x.push (.im (r F))⟩
theorem St.push_int (h : St K H0 F0 env σ tm H) (k : Int) : St K H0 F0 env σ (tm ++ [(.own (.im (.int k)), .int k)]) H := h.push_im fun _ => .int k
theorem St.push_bl (h : St K H0 F0 env σ tm H) (k : Bool) : St K H0 F0 env σ (tm ++ [(.own (.im (.bl k)), .bl k)]) H := h.push_im fun _ => .bl k
theorem St.push_str (h : St K H0 F0 env σ tm H) (k : Str) : St K H0 F0 env σ (tm ++ [(.own (.im (.str k)), .str k)]) H := h.push_im fun _ => .str k
theorem St.push_non (h : St K H0 F0 env σ tm H) : St K H0 F0 env σ (tm ++ [(.own (.im .non), .non)]) H := h.push_im fun _ => .non
/-- a slot's value -/
theorem St.var (h : St K H0 F0 env σ tm H) (e : env[i]? = some (some m)) : ∃ v, σ[i]? = some (some v) ∧ St K H0 F0 env σ (tm ++ [(view m, v)]) H := by
  obtain ⟨F, lab, x⟩ := h
  obtain ⟨v, h1, h2⟩ := x.slot i m e
  refine ⟨v, h1, F, lab, x.push ?_⟩
  cases m with
  | im d => cases h2 with | im r => exact .im r
  | bo d => cases h2 with | bo r => exact .bo r
  | lst ms => exact h2.any
  | tup ms => exact h2.any
  | obj c fs => exact h2.any
  | dK kvs => exact h2.any
  | dT kvs => exact h2.any
/-- a part of what the last temp shows, in its place -/
theorem St.part (h : St K H0 F0 env σ (tm ++ [(c, v)]) H) {c' : Cl} {v' : V}
    (q : ∀ F lab, Ex F H → Ex H0 H → RM K H0 F H lab none c.m v → RM K H0 F H lab none c'.m v' ∧ ((∃ d, c' = .own (.im d)) ∨ (∃ d, c' = .own (.bo d)) ∨ ∃ m, c' = .vw m)) : St K H0 F0 env σ (tm ++ [(c', v')]) H := by
  obtain ⟨F, lab, x⟩ := h
  have r := x.tmp tm.length c v (last_get tm _)
  obtain ⟨r', k⟩ := q F lab x.fe x.e0 r.any
  refine ⟨F, lab, Fra.push { x with tmp := fun j c v e => x.tmp j c v (by
    have := (List.getElem?_eq_some_iff.mp e).1
    rw [List.getElem?_append_left this]; exact e) } ?_⟩
  rcases k with ⟨d, rfl⟩ | ⟨d, rfl⟩ | ⟨m, rfl⟩
  · cases r' with | im r => exact .im r
  · cases r' with | bo r => exact .bo r
  · exact r'
/-! ### freezing -/
/-- the heap F with what owner (b, i) has -/
def frz (F H : Hp) (lab : Lab) (b : Bool) (i : Nat) : Hp := fun a => match lab a with
  | some (b', i', _) => if b' = b ∧ i' = i then H a else F a
  | none => F a
def unlab (lab : Lab) (b : Bool) (i : Nat) : Lab := fun a => match lab a with
  | some (b', i', q) => if b' = b ∧ i' = i then none else some (b', i', q)
  | none => none
theorem unlab_some {a : Addr} {b : Bool} {i : Nat} {L : Lb} (h : unlab lab b i a = some L) : lab a = some L ∧ ¬ (L.1 = b ∧ L.2.1 = i) := by
  unfold unlab at h
  split at h
  · rename_i b' i' q e
    split at h
    · exact nomatch h
    · rename_i n; cases h; exact ⟨e, n⟩
  · exact nomatch h
theorem unlab_ne {a : Addr} {b : Bool} {i : Nat} {L : Lb} (h : lab a = some L) (n : ¬ (L.1 = b ∧ L.2.1 = i)) : unlab lab b i a = some L := by
  obtain ⟨b', i', q⟩ := L
  unfold unlab; rw [h]; simp only; rw [if_neg n]
theorem Fra.frz_ex (x : Fra K H0 F0 env σ tm H F lab) {b : Bool} {i : Nat} : Ex F (frz F H lab b i) := by
  intro a o h
  unfold frz
  cases e : lab a with
  | none => exact h
  | some L => have := (x.own a L e).1; rw [h] at this; exact nomatch this
theorem Fra.frz_at (x : Fra K H0 F0 env σ tm H F lab) {b : Bool} {i : Nat} {a : Addr} {o : HO} (h : frz F H lab b i a = some o) : F a = some o ∨ ∃ q, lab a = some (b, i, q) ∧ H a = some o := by
  unfold frz at h
  split at h
  · rename_i b' i' q e
    split at h
    · rename_i c; obtain ⟨rfl, rfl⟩ := c; exact .inr ⟨q, e, h⟩
    · exact .inl h
  · exact .inl h
theorem RM.unlab {b b' : Bool} {i i' : Nat} (r : RM K H0 F H lab (some (b, i, [])) m v) (e : Ex F F') (n : ¬ (b = b' ∧ i = i')) : RM K H0 F' H (unlab lab b' i') (some (b, i, [])) m v :=
  r.keep e (fun _ _ _ h => h) (fun a l' L h w u => by
    cases h
    refine unlab_ne w fun c => n ?_
    obtain ⟨h1, h2, _⟩ := u
    exact ⟨h1.trans c.1, h2.trans c.2⟩)
theorem RM.none' (r : RM K H0 F H lab none m v) (e : Ex F F') : RM K H0 F' H lab' none m v := r.keep e (fun _ _ _ h => h) (fun _ _ _ h => nomatch h)
/-- the frame with an owner's things frozen: all but the owner's own word -/
theorem Fra.frozen (x : Fra K H0 F0 env σ tm H F lab) (b : Bool) (i : Nat) {env' : Env} {tm' : Tm} (hl : env'.length = env.length)
    (hs : ∀ (k : Nat) (m : M), env'[k]? = some (some m) → (env[k]? = some (some m) ∧ ¬ (false = b ∧ k = i)) ∨ ∃ v, σ[k]? = some (some v) ∧ RM K H0 (frz F H lab b i) H (unlab lab b i) (some (false, k, [])) m v)
    (ht : ∀ (k : Nat) (c : Cl) (v : V), tm'[k]? = some (c, v) → (tm[k]? = some (c, v) ∧ ¬ (true = b ∧ k = i)) ∨ RC K H0 (frz F H lab b i) H (unlab lab b i) k c v) : Fra K H0 F0 env' σ tm' H (frz F H lab b i) (unlab lab b i) where
  e0 := x.e0
  f0 := x.f0.trans x.frz_ex
  fe := fun a o h => by
    rcases x.frz_at h with h | ⟨_, _, h⟩
    · exact x.fe a o h
    · exact h
  new := fun a o h => by
    rcases x.frz_at h with h | ⟨q, h1, _⟩
    · exact x.new a o h
    · exact .inr (x.own a _ h1).2.1
  own := fun a L h => by
    obtain ⟨h1, n⟩ := unlab_some h
    obtain ⟨h2, h3, h4⟩ := x.own a L h1
    refine ⟨?_, h3, h4⟩
    cases e : frz F H lab b i a with
    | none => rfl
    | some o =>
      rcases x.frz_at e with h | ⟨q, h5, _⟩
      · rw [h2] at h; exact nomatch h
      · rw [h1] at h5; cases h5; exact absurd ⟨rfl, rfl⟩ n
  len := hl.trans x.len
  slot := fun k m e => by
    rcases hs k m e with ⟨e, n⟩ | h
    · obtain ⟨v, h1, h2⟩ := x.slot k m e
      exact ⟨v, h1, h2.unlab x.frz_ex n⟩
    · exact h
  tmp := fun k c v e => by
    rcases ht k c v e with ⟨e, n⟩ | h
    · have r := x.tmp k c v e
      cases c with
      | own m => exact RM.unlab r x.frz_ex n
      | vw m => exact RM.none' r x.frz_ex
    · exact h
theorem Fra.frz_rep (x : Fra K H0 F0 env σ tm H F lab) {b : Bool} {i : Nat} (r : RM K H0 F H lab (some (b, i, [])) m v) (p : m.pure = true) : Rep K (frz F H lab b i) v m.toD := by
  refine r.froz x.frz_ex p fun a o L w u h => ?_
  obtain ⟨b', i', q⟩ := L
  obtain ⟨h1, h2, _⟩ := u
  simp at h1 h2
  subst h1 h2
  unfold frz; rw [w]; simp [h]
/-- a temp frozen -/
theorem St.freezeT (h : St K H0 F0 env σ (tm ++ (.own m, v) :: ts) H) (p : m.pure = true) : St K H0 F0 env σ (tm ++ (.own (.im m.toD), v) :: ts) H := by
  obtain ⟨F, lab, x⟩ := h
  have r := x.tmp tm.length (.own m) v (by simp)
  refine ⟨_, _, x.frozen true tm.length rfl (fun k m e => .inl ⟨e, fun c => Bool.noConfusion c.1⟩) fun k c v' e => ?_⟩
  by_cases q : k = tm.length
  · subst q
    right
    simp at e
    obtain ⟨rfl, rfl⟩ := e
    exact .im (x.frz_rep r p)
  · left
    refine ⟨?_, fun c => q c.2⟩
    rcases Nat.lt_or_gt_of_ne q with q | q
    · rw [List.getElem?_append_left q] at e ⊢; exact e
    · rw [List.getElem?_append_right (by omega)] at e ⊢
      obtain ⟨n, hn⟩ : ∃ n, k - tm.length = n + 1 := ⟨k - tm.length - 1, by omega⟩
      rw [hn] at e ⊢; simpa using e
/-- a slot frozen -/
theorem St.freezeS (h : St K H0 F0 env σ tm H) (e : env[i]? = some (some m)) (p : m.pure = true) : St K H0 F0 (env.set i (some (.im m.toD))) σ tm H := by
  obtain ⟨F, lab, x⟩ := h
  obtain ⟨v, hv, r⟩ := x.slot i m e
  refine ⟨_, _, x.frozen false i (by simp) (fun k m' e' => ?_) fun k c v' e' => .inl ⟨e', fun c => Bool.noConfusion c.1⟩⟩
  by_cases q : i = k
  · subst q
    right
    rw [List.getElem?_set_self (List.getElem?_eq_some_iff.mp e).1] at e'
    cases e'
    exact ⟨v, hv, .im (x.frz_rep r p)⟩
  · left
    rw [List.getElem?_set_ne q] at e'
    exact ⟨e', fun c => q c.2.symm⟩
/-- a slot's word forgotten -/
theorem St.kill (h : St K H0 F0 env σ tm H) : St K H0 F0 (env.set i none) σ tm H := by
  obtain ⟨F, lab, x⟩ := h
  refine ⟨F, lab, { x with len := by simp [x.len], slot := fun k m e => x.slot k m ?_ }⟩
  by_cases q : i = k
  · subst q
    rw [List.getElem?_set] at e
    split at e
    · split at e
      · exact nomatch e
      · exact nomatch e
    · exact e
  · rw [List.getElem?_set_ne q] at e; exact e
end
end NW
set_option Elab.async false
set_option linter.all false
set_option maxRecDepth 100000
set_option maxHeartbeats 2000000
namespace NW
open PySem L2
open Evl (Ex)

def relab (g : Bool → Nat → Option (Bool × Nat × List Nat)) (lab : Lab) : Lab := fun a => match lab a with
  | some (b, i, q) => (match g b i with
    | some (b', i', s) => some (b', i', q ++ s)
    | none => none)
  | none => none
section
variable {K : PySem.W.Frag} {H0 F0 F F' H H' : Hp} {env env' : Env} {σ σ' : L2.St} {tm tm' ts : Tm} {lab lab' : Lab} {c : Cl} {v : V} {d : D} {m : M} {i j : Nat} {a p : Addr} {o : HO}
theorem relab_some {g : Bool → Nat → Option (Bool × Nat × List Nat)} {L : Lb} (h : relab g lab a = some L) : ∃ L', lab a = some L' := by
  unfold relab at h
  split at h
  · rename_i e; exact ⟨_, e⟩
  · exact nomatch h
theorem relab_moved {g : Bool → Nat → Option (Bool × Nat × List Nat)} {b b' : Bool} {i i' : Nat} {s : List Nat} (e : g b i = some (b', i', s)) : Moved lab (relab g lab) (some (b, i, [])) (some (b', i', s)) := by
  intro a x x' q h h' w
  cases h; cases h'
  unfold relab
  simp at w
  rw [w]; simp [e]
theorem RM.relab {g : Bool → Nat → Option (Bool × Nat × List Nat)} {b b' : Bool} {i i' : Nat} {s : List Nat} (r : RM K H0 F H lab (some (b, i, [])) m v) (e : g b i = some (b', i', s)) : RM K H0 F H (relab g lab) (some (b', i', s)) m v :=
  r.move (relab_moved e) (fun h => nomatch h)
theorem RMs.build {l : Option Lb} : ∀ {ms : List M} {vs : List V} {n : Nat}, ms.length = vs.length → (∀ (k : Nat) (m : M) (v : V), ms[k]? = some m → vs[k]? = some v → RM K H0 F H lab (sub l (n + k)) m v) → RMs K H0 F H lab l n ms vs
  | [], [], _, _, _ => .nil
  | m :: ms, v :: vs, n, hl, h => .cons (h 0 m v rfl rfl) (RMs.build (by simpa using hl) fun k m' v' a b => by
    have := h (k + 1) m' v' (by simpa using a) (by simpa using b)
    rw [show n + 1 + k = n + (k + 1) by omega]; exact this)
theorem RMs.len {l : Option Lb} : ∀ {ms : List M} {vs : List V} {n : Nat}, RMs K H0 F H lab l n ms vs → ms.length = vs.length
  | _, _, _, .nil => rfl
  | _, _, _, .cons _ r => by simp [RMs.len r]
theorem RMs.get {l : Option Lb} : ∀ {ms : List M} {vs : List V} {n k : Nat} {m : M}, RMs K H0 F H lab l n ms vs → ms[k]? = some m → ∃ v, vs[k]? = some v ∧ RM K H0 F H lab (sub l (n + k)) m v
  | _, _, _, k, m, .nil, h => by simp at h
  | _, _, _, 0, m, .cons a r, h => by simp at h; subst h; exact ⟨_, rfl, a⟩
  | _, _, n, k + 1, m, .cons a r, h => by
    obtain ⟨v, h1, h2⟩ := RMs.get (k := k) (m := m) r (by simpa using h)
    refine ⟨v, by simpa using h1, ?_⟩
    rw [show n + (k + 1) = n + 1 + k by omega]; exact h2
theorem RM.keepNe {l : Lb} (r : RM K H0 F H lab (some l) m v) (n : ∀ L, lab a = some L → ¬ Under l L) : RM K H0 F (upd H a o) lab (some l) m v :=
  r.keep (fun _ _ h => h) (fun b u w h => by
    obtain ⟨L, w1, w2⟩ := w l rfl
    have : b ≠ a := fun q => n L (q ▸ w1) w2
    rw [upd_ne this]; exact h) (fun _ _ _ _ h _ => h)
/-- the label laid at a new address -/
def lay (lab : Lab) (p : Addr) (L : Lb) : Lab := fun a => if a = p then some L else lab a
theorem lay_same {L : Lb} : lay lab p L p = some L := by unfold lay; rw [if_pos rfl]
theorem lay_ne {L : Lb} (h : a ≠ p) : lay lab p L a = lab a := by unfold lay; rw [if_neg h]
theorem RM.keepNew {l : Option Lb} (r : RM K H0 F H lab l m v) (hp : H p = none) (hl : lab p = none) {L0 : Lb} : RM K H0 F (upd H p o) (lay lab p L0) l m v :=
  r.keep (fun _ _ h => h) (fun b u _ h => by
    rw [upd_ne (ne_of_none h hp)]; exact h) (fun b l' L e w u => by
    have : b ≠ p := fun q => by subst q; rw [hl] at w; exact nomatch w
    rw [lay_ne this]; exact w)
theorem Fra.nolab (x : Fra K H0 F0 env σ tm H F lab) (hp : H p = none) : lab p = none := by
  cases e : lab p with
  | none => rfl
  | some L => obtain ⟨_, _, o, h⟩ := x.own p L e; rw [hp] at h; exact nomatch h
theorem Fra.nolabF (x : Fra K H0 F0 env σ tm H F lab) (hp : H p = none) : F p = none := by
  cases e : F p with
  | none => rfl
  | some o => have := x.fe p o e; rw [hp] at this; exact nomatch this
theorem Fra.nolab0 (x : Fra K H0 F0 env σ tm H F lab) (hp : H p = none) : H0 p = none := by
  cases e : H0 p with
  | none => rfl
  | some o => have := x.e0 p o e; rw [hp] at this; exact nomatch this
theorem RC.keepNew (r : RC K H0 F H lab j c v) (hp : H p = none) (hl : lab p = none) {L0 : Lb} : RC K H0 F (upd H p o) (lay lab p L0) j c v := by
  cases c with
  | own m => exact RM.keepNew r hp hl
  | vw m => exact RM.keepNew r hp hl
theorem Fra.lay (x : Fra K H0 F0 env σ tm H F lab) (hp : H p = none) {L0 : Lb} : Fra K H0 F0 env σ tm (upd H p o) F (lay lab p L0) where
  e0 := x.e0.trans (Ex.new hp)
  f0 := x.f0
  fe := x.fe.trans (Ex.new hp)
  new := x.new
  own := fun a L h => by
    by_cases q : a = p
    · subst q; exact ⟨x.nolabF hp, x.nolab0 hp, o, upd_same⟩
    · rw [lay_ne q] at h
      obtain ⟨h1, h2, u, h3⟩ := x.own a L h
      exact ⟨h1, h2, u, by rw [upd_ne q]; exact h3⟩
  len := x.len
  slot := fun i m e => by
    obtain ⟨v, h1, h2⟩ := x.slot i m e
    exact ⟨v, h1, h2.keepNew hp (x.nolab hp)⟩
  tmp := fun j c v e => (x.tmp j c v e).keepNew hp (x.nolab hp)
/-- slots and temps led over by new labels: each word of the new frame is shown -/
theorem Fra.relab (x : Fra K H0 F0 env σ tm H F lab) (g : Bool → Nat → Option (Bool × Nat × List Nat)) (hl : env'.length = σ'.length)
    (hs : ∀ (i : Nat) (m : M), env'[i]? = some (some m) → ∃ v, σ'[i]? = some (some v) ∧ RM K H0 F H (NW.relab g lab) (some (false, i, [])) m v)
    (ht : ∀ (j : Nat) (c : Cl) (v : V), tm'[j]? = some (c, v) → RC K H0 F H (NW.relab g lab) j c v) : Fra K H0 F0 env' σ' tm' H F (NW.relab g lab) :=
  ⟨x.e0, x.f0, x.fe, x.new, fun a L h => by obtain ⟨L', e⟩ := relab_some h; exact x.own a L' e, hl, hs, ht⟩
theorem RC.relab {g : Bool → Nat → Option (Bool × Nat × List Nat)} (r : RC K H0 F H lab j c v) (e : g true j = some (true, j, [])) : RC K H0 F H (NW.relab g lab) j c v := by
  cases c with
  | own m => exact RM.relab r e
  | vw m => exact RM.none' r (fun _ _ h => h)
/-- the last temp goes to a slot -/
theorem St.assign (h : St K H0 F0 env σ (tm ++ [(.own m, v)]) H) (i : Nat) : St K H0 F0 (env.set i (some m)) (σ.set i (some v)) tm H := by
  obtain ⟨F, lab, x⟩ := h
  let g : Bool → Nat → Option (Bool × Nat × List Nat) := fun b k => if b = true ∧ k = tm.length then some (false, i, []) else if b = false ∧ k = i then none else some (b, k, [])
  refine ⟨F, _, x.relab g (by simp [x.len]) (fun k m' e => ?_) fun k c v' e => ?_⟩
  · rw [List.getElem?_set] at e
    split at e
    · rename_i q; subst q
      split at e
      · rename_i q2
        cases e
        refine ⟨v, by rw [List.getElem?_set_self (by rw [← x.len]; exact q2)], ?_⟩
        exact RM.relab (x.tmp tm.length (.own m) v (last_get tm _)) (by simp [g])
      · exact nomatch e
    · rename_i q
      obtain ⟨w, h1, h2⟩ := x.slot k m' e
      refine ⟨w, by rw [List.getElem?_set_ne q]; exact h1, RM.relab h2 ?_⟩
      simp [g]; exact fun h => q h.symm
  · have hk := (List.getElem?_eq_some_iff.mp e).1
    refine RC.relab (x.tmp k c v' (by rw [List.getElem?_append_left hk]; exact e)) ?_
    simp [g]; omega
/-- temps of a row -/
def rowT (ms : List M) (vs : List V) : Tm := List.zipWith (fun m v => (Cl.own m, v)) ms vs
theorem rowT_get {ms : List M} {vs : List V} {k : Nat} {m : M} {v : V} (h1 : ms[k]? = some m) (h2 : vs[k]? = some v) : (rowT ms vs)[k]? = some (.own m, v) := by
  unfold rowT; rw [List.getElem?_zipWith, h1, h2]
/-- a row of temps laid into a new list (tuple) -/
theorem St.alloc {ms : List M} {vs : List V} (hl : ms.length = vs.length) (h : St K H0 F0 env σ (tm ++ rowT ms vs) H) (hp : H p = none) (mk : M) (o : HO)
    (b : ∀ (F : Hp) (lab' : Lab), lab' p = some (true, tm.length, []) → RMs K H0 F (upd H p o) lab' (some (true, tm.length, [])) 0 ms vs → RM K H0 F (upd H p o) lab' (some (true, tm.length, [])) mk (.ref p)) :
    St K H0 F0 env σ (tm ++ [(.own mk, .ref p)]) (upd H p o) := by
  obtain ⟨F, lab, x⟩ := h
  let g : Bool → Nat → Option (Bool × Nat × List Nat) := fun b k => if b = true ∧ tm.length ≤ k then some (true, tm.length, [k - tm.length]) else some (b, k, [])
  have x1 : Fra K H0 F0 env σ tm H F (NW.relab g lab) := x.relab g x.len (fun i m e => by
    obtain ⟨w, h1, h2⟩ := x.slot i m e
    exact ⟨w, h1, RM.relab h2 (by simp [g])⟩) (fun j c v e => by
    have hk := (List.getElem?_eq_some_iff.mp e).1
    refine RC.relab (x.tmp j c v (by rw [List.getElem?_append_left hk]; exact e)) ?_
    simp [g]; omega)
  have x2 := x1.lay (o := o) hp (L0 := (true, tm.length, []))
  refine ⟨F, _, x2.push ?_⟩
  refine b F _ lay_same (RMs.build hl fun k m v e1 e2 => ?_)
  have r := x.tmp (tm.length + k) (.own m) v (by rw [List.getElem?_append_right (by omega)]; simpa using rowT_get e1 e2)
  have r2 : RM K H0 F H (NW.relab g lab) (some (true, tm.length, [k])) m v := RM.relab r (by simp [g])
  have := r2.keepNew (o := o) hp (x1.nolab hp) (L0 := (true, tm.length, []))
  rw [Nat.zero_add]; exact this
theorem St.newLst {ms : List M} {vs : List V} (hl : ms.length = vs.length) (h : St K H0 F0 env σ (tm ++ rowT ms vs) H) (hp : H p = none) : St K H0 F0 env σ (tm ++ [(.own (.lst ms), .ref p)]) (upd H p (.lst vs)) :=
  h.alloc hl hp _ _ fun F lab' h1 h2 => .lst upd_same (fun L e => by cases e; exact h1) h2
theorem St.newTup {ms : List M} {vs : List V} (hl : ms.length = vs.length) (h : St K H0 F0 env σ (tm ++ rowT ms vs) H) (hp : H p = none) : St K H0 F0 env σ (tm ++ [(.own (.tup ms), .ref p)]) (upd H p (.tup vs)) :=
  h.alloc hl hp _ _ fun F lab' h1 h2 => .tup upd_same (fun L e => by cases e; exact h1) h2
/-! ### an owned object changed -/
/-- no looks among the temps -/
def Owns (tm : Tm) : Prop := ∀ (j : Nat) (c : Cl) (v : V), tm[j]? = some (c, v) → ∃ m, c = .own m
theorem Owns.nil : Owns [] := fun j c v h => by simp at h
theorem Owns.push (h : Owns tm) : Owns (tm ++ [(.own m, v)]) := fun j c v e => by
  rcases get_push e with ⟨_, e⟩ | ⟨_, e⟩
  · exact h j c v e
  · cases e; exact ⟨_, rfl⟩
/-- the object of slot i at a is written; the slot's new word is shown; the others stay -/
theorem Fra.write (x : Fra K H0 F0 env σ tm H F lab) (hw : Owns tm) {q : List Nat} (ha : lab a = some (false, i, q)) (hl : env'.length = env.length)
    (hs : ∀ (k : Nat) (m : M), env'[k]? = some (some m) → (k ≠ i ∧ env[k]? = some (some m)) ∨ ∃ v, σ[k]? = some (some v) ∧ RM K H0 F (upd H a o) lab (some (false, k, [])) m v) : Fra K H0 F0 env' σ tm (upd H a o) F lab where
  e0 := fun b u h => by
    have : b ≠ a := fun e => by subst e; have := (x.own b _ ha).2.1; rw [h] at this; exact nomatch this
    rw [upd_ne this]; exact x.e0 b u h
  f0 := x.f0
  fe := fun b u h => by
    have : b ≠ a := fun e => by subst e; have := (x.own b _ ha).1; rw [h] at this; exact nomatch this
    rw [upd_ne this]; exact x.fe b u h
  new := x.new
  own := fun b L h => by
    obtain ⟨h1, h2, u, h3⟩ := x.own b L h
    by_cases e : b = a
    · subst e; exact ⟨h1, h2, o, upd_same⟩
    · exact ⟨h1, h2, u, by rw [upd_ne e]; exact h3⟩
  len := hl.trans x.len
  slot := fun k m e => by
    rcases hs k m e with ⟨n, e⟩ | h
    · obtain ⟨v, h1, h2⟩ := x.slot k m e
      refine ⟨v, h1, h2.keepNe fun L w u => ?_⟩
      rw [ha] at w; cases w
      exact n u.2.1
    · exact h
  tmp := fun j c v e => by
    have r := x.tmp j c v e
    obtain ⟨m, rfl⟩ := hw j c v e
    exact RM.keepNe r fun L w u => by
      rw [ha] at w; cases w
      exact Bool.noConfusion u.1
theorem under_ne {b : Bool} {i k : Nat} {p : List Nat} (u : Under (b, i, k :: p) (b, i, p)) : False := by
  obtain ⟨_, _, q, h3⟩ := u
  have h4 : p.length = (q ++ k :: p).length := congrArg List.length h3
  rw [List.length_append, List.length_cons] at h4
  omega
theorem RMs.keepNe {l : Lb} : ∀ {ms : List M} {vs : List V} {n : Nat}, RMs K H0 F H lab (some l) n ms vs → lab a = some l → RMs K H0 F (upd H a o) lab (some l) n ms vs
  | _, _, _, .nil, _ => .nil
  | _, _, _, .cons h r, e => .cons (h.keepNe fun L w u => by
      rw [e] at w; cases w
      exact under_ne u) (RMs.keepNe r e)
theorem get_last_temp (x : Fra K H0 F0 env σ (tm ++ [(.own m, v)]) H F lab) : RM K H0 F H lab (some (true, tm.length, [])) m v := x.tmp tm.length (.own m) v (last_get tm _)
/-- the last temp put below slot i's root at place k -/
def gIn (J i k : Nat) : Bool → Nat → Option (Bool × Nat × List Nat) := fun b n => if b = true ∧ n = J then some (false, i, [k]) else some (b, n, [])
theorem Fra.putIn (x : Fra K H0 F0 env σ (tm ++ [(.own m, v)]) H F lab) (k : Nat) : Fra K H0 F0 env σ tm H F (NW.relab (gIn tm.length i k) lab) ∧ RM K H0 F H (NW.relab (gIn tm.length i k) lab) (some (false, i, [k])) m v := by
  refine ⟨x.relab _ x.len (fun n m' e => ?_) fun n c v' e => ?_, RM.relab (get_last_temp x) (by simp [gIn])⟩
  · obtain ⟨w, h1, h2⟩ := x.slot n m' e
    exact ⟨w, h1, RM.relab h2 (by simp [gIn])⟩
  · have hk := (List.getElem?_eq_some_iff.mp e).1
    refine RC.relab (x.tmp n c v' (by rw [List.getElem?_append_left hk]; exact e)) ?_
    simp [gIn]; omega
/-- slot i is a list of its own: where it stands -/
theorem Fra.slotLst {ms : List M} (x : Fra K H0 F0 env σ tm H F lab) (e : env[i]? = some (some (.lst ms))) : ∃ a vs, σ[i]? = some (some (.ref a)) ∧ H a = some (.lst vs) ∧ lab a = some (false, i, []) ∧ RMs K H0 F H lab (some (false, i, [])) 0 ms vs := by
  obtain ⟨v, h1, h2⟩ := x.slot i _ e
  cases h2 with
  | lst h w r => exact ⟨_, _, h1, h, w _ rfl, r⟩
theorem RMs.app {l : Option Lb} : ∀ {ms : List M} {vs : List V} {n : Nat}, RMs K H0 F H lab l n ms vs → RM K H0 F H lab (sub l (n + ms.length)) m v → RMs K H0 F H lab l n (ms ++ [m]) (vs ++ [v])
  | _, _, _, .nil, h => .cons (by simpa using h) .nil
  | _, _, n, .cons (ms := ms) a r, h => .cons a (RMs.app r (by rw [show n + 1 + ms.length = n + (ms.length + 1) by omega]; simpa using h))
theorem RMs.set {l : Option Lb} : ∀ {ms : List M} {vs : List V} {n k : Nat}, RMs K H0 F H lab l n ms vs → RM K H0 F H lab (sub l (n + k)) m v → RMs K H0 F H lab l n (ms.set k m) (vs.set k v)
  | _, _, _, _, .nil, h => .nil
  | _, _, _, 0, .cons a r, h => .cons (by simpa using h) r
  | _, _, n, k + 1, .cons a r, h => .cons a (RMs.set r (by rw [show n + 1 + k = n + (k + 1) by omega]; exact h))
/-- x.append(the last temp), x in slot i -/
theorem St.append {ms : List M} (h : St K H0 F0 env σ (tm ++ [(.own m, v)]) H) (hw : Owns tm) (e : env[i]? = some (some (.lst ms))) :
    ∃ a vs, σ[i]? = some (some (.ref a)) ∧ H a = some (.lst vs) ∧ vs.length = ms.length ∧ St K H0 F0 (env.set i (some (.lst (ms ++ [m])))) σ tm (upd H a (.lst (vs ++ [v]))) := by
  obtain ⟨F, lab, x⟩ := h
  obtain ⟨x1, r⟩ := x.putIn (i := i) ms.length
  obtain ⟨a, vs, h1, h2, h3, h4⟩ := x1.slotLst e
  refine ⟨a, vs, h1, h2, h4.len.symm, F, _, x1.write hw h3 (by simp) fun k m' e' => ?_⟩
  by_cases q : i = k
  · subst q
    right
    rw [List.getElem?_set_self (List.getElem?_eq_some_iff.mp e).1] at e'
    cases e'
    refine ⟨_, h1, .lst upd_same (fun L e => by cases e; exact h3) ?_⟩
    exact RMs.app (RMs.keepNe h4 h3) (by
      rw [Nat.zero_add]
      exact r.keepNe fun L w u => by
        rw [h3] at w; cases w
        obtain ⟨_, _, q, h5⟩ := u
        have := congrArg List.length h5
        simp at this)
  · left
    rw [List.getElem?_set_ne q] at e'
    exact ⟨fun c => q c.symm, e'⟩
/-- x[k] = the last temp -/
theorem St.setAt {ms : List M} {k : Nat} (h : St K H0 F0 env σ (tm ++ [(.own m, v)]) H) (hw : Owns tm) (e : env[i]? = some (some (.lst ms))) :
    ∃ a vs, σ[i]? = some (some (.ref a)) ∧ H a = some (.lst vs) ∧ vs.length = ms.length ∧ St K H0 F0 (env.set i (some (.lst (ms.set k m)))) σ tm (upd H a (.lst (vs.set k v))) := by
  obtain ⟨F, lab, x⟩ := h
  obtain ⟨x1, r⟩ := x.putIn (i := i) k
  obtain ⟨a, vs, h1, h2, h3, h4⟩ := x1.slotLst e
  refine ⟨a, vs, h1, h2, h4.len.symm, F, _, x1.write hw h3 (by simp) fun k' m' e' => ?_⟩
  by_cases q : i = k'
  · subst q
    right
    rw [List.getElem?_set_self (List.getElem?_eq_some_iff.mp e).1] at e'
    cases e'
    refine ⟨_, h1, .lst upd_same (fun L e => by cases e; exact h3) ?_⟩
    exact RMs.set (RMs.keepNe h4 h3) (by
      rw [Nat.zero_add]
      exact r.keepNe fun L w u => by
        rw [h3] at w; cases w
        obtain ⟨_, _, q, h5⟩ := u
        have := congrArg List.length h5
        simp at this)
  · left
    rw [List.getElem?_set_ne q] at e'
    exact ⟨fun c => q c.symm, e'⟩
end
end NW
set_option Elab.async false
set_option linter.all false
set_option maxRecDepth 100000
set_option maxHeartbeats 2000000
namespace NW
open PySem L2
open Evl (Ex)

/-- an answer, an exception of the class named x with its fields, or nothing that is told -/
inductive R (α : Type) where
  | ok (a : α) | ex (x : Str) (fs : List (Str × D)) | bad
def R.bind {α β : Type} (r : R α) (k : α → R β) : R β := match r with
  | .ok a => k a
  | .ex x fs => .ex x fs
  | .bad => .bad
@[simp] theorem R.bind_ok {α β : Type} (a : α) (k : α → R β) : (R.ok a).bind k = k a := rfl
@[simp] theorem R.bind_ex {α β : Type} (x : Str) (fs : List (Str × D)) (k : α → R β) : (R.ex x fs).bind k = .ex x fs := rfl
@[simp] theorem R.bind_bad {α β : Type} (k : α → R β) : (R.bad).bind k = .bad := rfl
abbrev Fe := Env → R Cl
/-- how an exception lies -/
def XD (K : PySem.W.Frag) (F : Hp) (x : Str) (fs : List (Str × D)) (cls : Value) (d : Option Addr) : Prop :=
  cls = .ref (He.ga K x) ∧ ((d = none ∧ fs = []) ∨ ∃ a fvs, d = some a ∧ F a = some (.xd fvs) ∧ RepF K F fvs fs)
/-- a state with an exception of frozen fields -/
def StX (K : PySem.W.Frag) (H0 F0 : Hp) (env : Env) (σ : L2.St) (tm : Tm) (H : Hp) (x : Str) (fs : List (Str × D)) (cls : Value) (d : Option Addr) : Prop :=
  ∃ F lab, Fra K H0 F0 env σ tm H F lab ∧ XD K F x fs cls d
theorem StX.st {K : PySem.W.Frag} {H0 F0 H : Hp} {env : Env} {σ : L2.St} {tm : Tm} {x : Str} {fs : List (Str × D)} {cls : Value} {d : Option Addr} (h : StX K H0 F0 env σ tm H x fs cls d) : St K H0 F0 env σ tm H := by
  obtain ⟨F, lab, x, _⟩ := h
  exact ⟨F, lab, x⟩
theorem StX.drop {K : PySem.W.Frag} {H0 F0 H : Hp} {env : Env} {σ : L2.St} {tm ts : Tm} {x : Str} {fs : List (Str × D)} {cls : Value} {d : Option Addr} (h : StX K H0 F0 env σ (tm ++ ts) H x fs cls d) : StX K H0 F0 env σ tm H x fs cls d := by
  obtain ⟨F, lab, x, y⟩ := h
  refine ⟨F, lab, { x with tmp := fun j c v e => x.tmp j c v ?_ }, y⟩
  rw [List.getElem?_append_left (by have := (List.getElem?_eq_some_iff.mp e).1; omega)]; exact e
/-- what is to be shown of an answer -/
def GoodR {α : Type} (K : PySem.W.Frag) (W : WX) (H0 F0 : Hp) (env : Env) (σ : L2.St) (tm : Tm) (r : R α) (q : α → Prop) : Prop := match r with
  | .ok a => q a
  | .ex x fs => ∀ cls d H', StX K H0 F0 env σ tm H' x fs cls d → W cls d σ H'
  | .bad => False
theorem GoodR.imp {α : Type} {K : PySem.W.Frag} {W : WX} {H0 F0 : Hp} {env : Env} {σ : L2.St} {tm : Tm} {r : R α} {q q' : α → Prop} (h : GoodR K W H0 F0 env σ tm r q) (k : ∀ a, r = .ok a → q a → q' a) : GoodR K W H0 F0 env σ tm r q' := by
  cases r with
  | ok a => exact k a rfl h
  | ex x fs => exact h
  | bad => exact h
theorem GoodR.bind {α β : Type} {K : PySem.W.Frag} {W : WX} {H0 F0 : Hp} {env : Env} {σ : L2.St} {tm : Tm} {r : R α} {k : α → R β} {q : β → Prop} (h : GoodR K W H0 F0 env σ tm (r.bind k) q) : GoodR K W H0 F0 env σ tm r (fun a => GoodR K W H0 F0 env σ tm (k a) q) := by
  cases r with
  | ok a => exact h
  | ex x fs => exact h
  | bad => exact h
/-- an exception with more temps in hand is one with fewer -/
theorem GoodR.more {α : Type} {K : PySem.W.Frag} {W : WX} {H0 F0 : Hp} {env : Env} {σ : L2.St} {tm ts : Tm} {r : R α} {q : α → Prop} (h : GoodR K W H0 F0 env σ tm r q) : GoodR K W H0 F0 env σ (tm ++ ts) r q := by
  cases r with
  | ok a => exact h
  | ex x fs => exact fun cls d H' hs => h cls d H' hs.drop
  | bad => exact h
/-- an expression's reading is worth f -/
def SE (K : PySem.W.Frag) (W : WX) (te : TE) (f : Fe) : Prop := ∀ (H0 F0 : Hp) (env : Env) (σ : L2.St) (tm : Tm) (H : Hp) (Q : VK), St K H0 F0 env σ tm H →
  GoodR K W H0 F0 env σ tm (f env) (fun c => ∀ v H', St K H0 F0 env σ (tm ++ [(c, v)]) H' → Q v H') → te σ H Q
def SB (K : PySem.W.Frag) (W : WX) (tt : TT) (f : Env → R Bool) : Prop := ∀ (H0 F0 : Hp) (env : Env) (σ : L2.St) (tm : Tm) (H : Hp) (Q : Bool → Hp → Prop), St K H0 F0 env σ tm H →
  GoodR K W H0 F0 env σ tm (f env) (fun b => ∀ H', St K H0 F0 env σ tm H' → Q b H') → tt σ H Q
def SA (K : PySem.W.Frag) (W : WX) (ta : TA) (f : Env → R (List Cl)) : Prop := ∀ (H0 F0 : Hp) (env : Env) (σ : L2.St) (tm : Tm) (H : Hp) (Q : List V → Hp → Prop), St K H0 F0 env σ tm H →
  GoodR K W H0 F0 env σ tm (f env) (fun cs => ∀ vs H', vs.length = cs.length → St K H0 F0 env σ (tm ++ cs.zip vs) H' → Q vs H') → ta σ H Q
structure PF (X : Cx) (W : WX) (e : Expr) (te : TE) (f : Fe) : Prop where
  p : PE X e te
  s : SE X.K W te f
structure PQ (X : Cx) (W : WX) (e : Expr) (tt : TT) (f : Env → R Bool) : Prop where
  p : PT X e tt
  s : SB X.K W tt f
structure PWQ (X : Cx) (W : WX) (e : Expr) (tt : TT) (f : Env → R Bool) : Prop where
  p : PW X e tt
  s : SB X.K W tt f
structure PAF (X : Cx) (W : WX) (es : List Expr) (ta : TA) (f : Env → R (List Cl)) : Prop where
  p : PA X es ta
  s : SA X.K W ta f
section
variable {K : PySem.W.Frag} {W : WX} {H0 F0 H : Hp} {env : Env} {σ : L2.St} {tm : Tm}
/-! ### names, constants -/
def fVar (i : Nat) : Fe := fun env => match env[i]? with
  | some (some m) => .ok (view m)
  | _ => .bad
theorem se_var {i : Nat} : SE K W (tVar i) (fVar i) := by
  intro H0 F0 env σ tm H Q h g
  unfold fVar at g
  split at g
  · rename_i m e
    obtain ⟨v, h1, h2⟩ := h.var e
    exact ⟨v, h1, g v H h2⟩
  · exact g.elim
def fC (d : D) : Fe := fun _ => .ok (.own (.im d))
theorem se_c {v : V} {d : D} (r : ∀ G, Rep K G v d) : SE K W (tC v) (fC d) := fun H0 F0 env σ tm H Q h g => g v H (h.push_im r)
/-! ### operators -/
/-- two operands, then g of them -/
def fB (g : Cl → Cl → R Cl) (fa fb : Fe) : Fe := fun env => (fa env).bind fun x => (fb env).bind fun y => g x y
/-- what a rule of two values must do for g -/
def SR (K : PySem.W.Frag) (W : WX) (r : R2) (g : Cl → Cl → R Cl) : Prop := ∀ (H0 F0 : Hp) (env : Env) (σ : L2.St) (tm : Tm) (x y : Cl) (v w : V) (H : Hp) (Q : VK), St K H0 F0 env σ (tm ++ [(x, v)] ++ [(y, w)]) H →
  GoodR K W H0 F0 env σ tm (g x y) (fun c => ∀ u H', St K H0 F0 env σ (tm ++ [(c, u)]) H' → Q u H') → r v w H Q
theorem se_op {r : R2} {g : Cl → Cl → R Cl} {ta tb : TE} {fa fb : Fe} (hr : SR K W r g) (ha : SE K W ta fa) (hb : SE K W tb fb) : SE K W (tOp r ta tb) (fB g fa fb) := by
  intro H0 F0 env σ tm H Q h k
  refine ha H0 F0 env σ tm H _ h (k.bind.imp fun x _ k1 v H1 h1 => ?_)
  refine hb H0 F0 env σ _ H1 _ h1 (k1.bind.more.imp fun y _ k2 w H2 h2 => ?_)
  exact hr H0 F0 env σ tm x y v w H2 Q h2 k2
theorem St.two {x y : Cl} {v w : V} (h : St K H0 F0 env σ (tm ++ [(x, v)] ++ [(y, w)]) H) : Rep K H v x.toD ∧ Rep K H w y.toD ∧ St K H0 F0 env σ tm H :=
  ⟨h.drop.last, h.last, h.drop.drop⟩
theorem rep_int {v : V} {i : Int} (r : Rep K H v (.int i)) : v = .int i := by cases r; rfl
theorem rep_bl {v : V} {b : Bool} (r : Rep K H v (.bl b)) : v = .bl b := by cases r; rfl
theorem rep_str {v : V} {b : Str} (r : Rep K H v (.str b)) : v = .str b := by cases r; rfl
theorem rep_non {v : V} (r : Rep K H v .non) : v = .non := by cases r; rfl
def okI (k : Int) : R Cl := .ok (.own (.im (.int k)))
def okB (k : Bool) : R Cl := .ok (.own (.im (.bl k)))
def gI (C : Int → Int → Bool) (f : Int → Int → Int) : Cl → Cl → R Cl := fun x y => match x.toD, y.toD with
  | .int i, .int j => if C i j = true then okI (f i j) else .bad
  | _, _ => .bad
theorem sr_I {C : Int → Int → Bool} {C' : Int → Int → Prop} {f : Int → Int → Int} (hC : ∀ i j, C i j = true → C' i j) : SR K W (rI C' fun i j => .int (f i j)) (gI C f) := by
  intro H0 F0 env σ tm x y v w H Q h k
  obtain ⟨r1, r2, h0⟩ := h.two
  unfold gI at k
  split at k
  · rename_i i j e1 e2
    rw [e1] at r1; rw [e2] at r2
    rw [rep_int r1, rep_int r2]
    split at k
    · rename_i c
      exact ⟨i, j, rfl, rfl, hC i j c, k _ H (h0.push_int _)⟩
    · exact k.elim
  · exact k.elim
def gI0 (f : Int → Int → Int) : Cl → Cl → R Cl := fun x y => match x.toD, y.toD with
  | .int i, .int j => okI (f i j)
  | _, _ => .bad
theorem sr_I0 {f : Int → Int → Int} : SR K W (rI0 fun i j => .int (f i j)) (gI0 f) := by
  intro H0 F0 env σ tm x y v w H Q h k
  obtain ⟨r1, r2, h0⟩ := h.two
  unfold gI0 at k
  split at k
  · rename_i i j e1 e2
    rw [e1] at r1; rw [e2] at r2
    rw [rep_int r1, rep_int r2]
    exact ⟨i, j, rfl, rfl, k _ H (h0.push_int _)⟩
  · exact k.elim
def gB0 (f : Int → Int → Bool) : Cl → Cl → R Cl := fun x y => match x.toD, y.toD with
  | .int i, .int j => okB (f i j)
  | _, _ => .bad
theorem sr_B0 {f : Int → Int → Bool} : SR K W (rI0 fun i j => .bl (f i j)) (gB0 f) := by
  intro H0 F0 env σ tm x y v w H Q h k
  obtain ⟨r1, r2, h0⟩ := h.two
  unfold gB0 at k
  split at k
  · rename_i i j e1 e2
    rw [e1] at r1; rw [e2] at r2
    rw [rep_int r1, rep_int r2]
    exact ⟨i, j, rfl, rfl, k _ H (h0.push_bl _)⟩
  · exact k.elim
/-! the conditions of the numbers' rules -/
def mulOk (i j : Int) : Bool := decide ((-(2 ^ 64) < i ∧ i < 2 ^ 64) ∨ (-(2 ^ 64) < j ∧ j < 2 ^ 64)) || decide (i.natAbs.log2 + j.natAbs.log2 < 1000000)
def divOk (_ j : Int) : Bool := decide (0 < j ∧ j.natAbs.log2 < 9000)
def modOk (_ j : Int) : Bool := decide (0 < j)
def powOk (i j : Int) : Bool := decide (0 ≤ j ∧ j ≤ 1000000 ∧ i.natAbs < 2 ^ 64)
theorem mulOk_ok (i j : Int) (h : mulOk i j = true) : CMul i j ∨ CMulW i j := by
  unfold mulOk at h
  rw [Bool.or_eq_true] at h
  rcases h with h | h
  · have h1 : (-(2 ^ 64) < i ∧ i < 2 ^ 64) ∨ (-(2 ^ 64) < j ∧ j < 2 ^ 64) := of_decide_eq_true h
    exact .inl h1
  · have h1 : i.natAbs.log2 + j.natAbs.log2 < 1000000 := of_decide_eq_true h
    exact .inr h1
theorem op_mulB {X : Cx} : OpR X (binaryOp .Mult) (rI (fun i j => CMul i j ∨ CMulW i j) fun i j => .int (i * j)) := by
  intro pins s σ H x y v u Q I rx ry h
  obtain ⟨i, j, rfl, rfl, c, q⟩ := h
  rcases c with c | c
  · exact op_mul pins s σ H _ _ v u Q I rx ry ⟨i, j, rfl, rfl, c, q⟩
  · exact op_mulW pins s σ H _ _ v u Q I rx ry ⟨i, j, rfl, rfl, c, q⟩
theorem divOk_ok (i j : Int) (h : divOk i j = true) : CDivW i j := by
  have : 0 < j ∧ j.natAbs.log2 < 9000 := of_decide_eq_true h
  exact this
theorem modOk_ok (i j : Int) (h : modOk i j = true) : 0 < j := of_decide_eq_true h
theorem powOk_ok (i j : Int) (h : powOk i j = true) : CPow i j := by
  have : 0 ≤ j ∧ j ≤ 1000000 ∧ i.natAbs < 2 ^ 64 := of_decide_eq_true h
  exact this
abbrev kAdd : R2 := rI0 fun i j => .int (i + j)
abbrev kSub : R2 := rI0 fun i j => .int (i - j)
abbrev kMul : R2 := rI (fun i j => CMul i j ∨ CMulW i j) fun i j => .int (i * j)
abbrev kDiv : R2 := rI CDivW fun i j => .int (i / j)
abbrev kMod : R2 := rI (fun _ j => 0 < j) fun i j => .int (i % j)
abbrev kPow : R2 := rI CPow fun i j => .int (i ^ j.toNat)
abbrev kLt : R2 := rI0 fun i j => .bl (decide (i < j))
abbrev kLe : R2 := rI0 fun i j => .bl (decide (i ≤ j))
abbrev kGt : R2 := rI0 fun i j => .bl (decide (j < i))
abbrev kGe : R2 := rI0 fun i j => .bl (decide (j ≤ i))
abbrev fAdd := fB (gI0 fun i j => i + j)
abbrev fSub := fB (gI0 fun i j => i - j)
abbrev fMul := fB (gI mulOk fun i j => i * j)
abbrev fDiv := fB (gI divOk fun i j => i / j)
abbrev fMod := fB (gI modOk fun i j => i % j)
abbrev fPow := fB (gI powOk fun i j => i ^ j.toNat)
abbrev fLt := fB (gB0 fun i j => decide (i < j))
abbrev fLe := fB (gB0 fun i j => decide (i ≤ j))
abbrev fGt := fB (gB0 fun i j => decide (j < i))
abbrev fGe := fB (gB0 fun i j => decide (j ≤ i))
end
section
variable {X : Cx} {W : WX} {a b e : Expr} {es : List Expr} {ta tb te : TE} {tr : TA} {fa fb : Fe} {pos : Pos} {i : Nat} {x : Str}
theorem pf_var (i : Nat) {x : Str} {pos : Pos} (hN : X.N[i]? = some x := by rfl) (hv : Vis X.env.scope x := by first | exact Or.inl rfl | exact Or.inr (Or.inl rfl) | exact Or.inr (Or.inr rfl)) (hd : (x == ("__debug__" : Str)) = false := by decide)
    (hcd : (x == ("__classdict__" : Str)) = false := by decide) : PF X W (.Name x pos) (tVar i) (fVar i) := ⟨pe_var hN hv hd hcd, se_var⟩
theorem pf_int {i : Int} {j pos} : PF X W (.Constant (.int i) j pos) (tC (.int i)) (fC (.int i)) := ⟨pe_int, se_c fun _ => .int i⟩
theorem pf_bl {b : Bool} {j pos} : PF X W (.Constant (.bool b) j pos) (tC (.bl b)) (fC (.bl b)) := ⟨pe_bl, se_c fun _ => .bl b⟩
theorem pf_non {j pos} : PF X W (.Constant .none j pos) (tC .non) (fC .non) := ⟨pe_non, se_c fun _ => .non⟩
theorem pf_str {x : Str} {j pos} : PF X W (.Constant (.str x) j pos) (tC (.str x)) (fC (.str x)) := ⟨pe_str, se_c fun _ => .str x⟩
/-- a module's int -/
theorem pf_glI {x : Str} {i : Int} {pos : Pos} (hg : Gl X x) (hm : ∃ t, X.mg x = some (.int i t)) (hd : (x == ("__debug__" : Str)) = false := by decide) : PF X W (.Name x pos) (tC (.int i)) (fC (.int i)) := by
  obtain ⟨t, hm⟩ := hm
  exact ⟨pe_glob hg hm ⟨t, rfl⟩ hd, se_c fun _ => .int i⟩
theorem pf_op {op : Operator} {r : R2} {g : Cl → Cl → R Cl} (ho : OpR X (binaryOp op) r) (hr : SR X.K W r g) (ha : PF X W a ta fa) (hb : PF X W b tb fb) : PF X W (.BinOp a op b pos) (tOp r ta tb) (fB g fa fb) := ⟨pe_op ho ha.p hb.p, se_op hr ha.s hb.s⟩
theorem pf_add (ha : PF X W a ta fa) (hb : PF X W b tb fb) : PF X W (.BinOp a .Add b pos) (tOp kAdd ta tb) (fAdd fa fb) := pf_op op_add sr_I0 ha hb
theorem pf_sub (ha : PF X W a ta fa) (hb : PF X W b tb fb) : PF X W (.BinOp a .Sub b pos) (tOp kSub ta tb) (fSub fa fb) := pf_op op_sub sr_I0 ha hb
theorem pf_mul (ha : PF X W a ta fa) (hb : PF X W b tb fb) : PF X W (.BinOp a .Mult b pos) (tOp kMul ta tb) (fMul fa fb) := pf_op op_mulB (sr_I mulOk_ok) ha hb
theorem pf_div (ha : PF X W a ta fa) (hb : PF X W b tb fb) : PF X W (.BinOp a .FloorDiv b pos) (tOp kDiv ta tb) (fDiv fa fb) := pf_op op_fdivW (sr_I divOk_ok) ha hb
theorem pf_mod (ha : PF X W a ta fa) (hb : PF X W b tb fb) : PF X W (.BinOp a .Mod b pos) (tOp kMod ta tb) (fMod fa fb) := pf_op op_mod (sr_I modOk_ok) ha hb
theorem pf_pow (ha : PF X W a ta fa) (hb : PF X W b tb fb) : PF X W (.BinOp a .Pow b pos) (tOp kPow ta tb) (fPow fa fb) := pf_op op_pow (sr_I powOk_ok) ha hb
theorem pf_cmp {op : CmpOp} {r : R2} {g : Cl → Cl → R Cl} (ho : OpR X (compareOp op) r) (hr : SR X.K W r g) (ha : PF X W a ta fa) (hb : PF X W b tb fb) (hm : behindInMarks op b = false) : PF X W (.Compare a [op] [b] pos) (tOp r ta tb) (fB g fa fb) := ⟨pe_cmpR ho ha.p hb.p hm, se_op hr ha.s hb.s⟩
theorem pf_lt (ha : PF X W a ta fa) (hb : PF X W b tb fb) : PF X W (.Compare a [.Lt] [b] pos) (tOp kLt ta tb) (fLt fa fb) := pf_cmp op_lt sr_B0 ha hb (nomark _)
theorem pf_le (ha : PF X W a ta fa) (hb : PF X W b tb fb) : PF X W (.Compare a [.LtE] [b] pos) (tOp kLe ta tb) (fLe fa fb) := pf_cmp op_le sr_B0 ha hb (nomark _)
theorem pf_gt (ha : PF X W a ta fa) (hb : PF X W b tb fb) : PF X W (.Compare a [.Gt] [b] pos) (tOp kGt ta tb) (fGt fa fb) := pf_cmp op_gt sr_B0 ha hb (nomark _)
theorem pf_ge (ha : PF X W a ta fa) (hb : PF X W b tb fb) : PF X W (.Compare a [.GtE] [b] pos) (tOp kGe ta tb) (fGe fa fb) := pf_cmp op_ge sr_B0 ha hb (nomark _)
/-! ### tests -/
/-- a bool, off a value -/
def asB (c : Cl) : R Bool := match c.toD with
  | .bl b => .ok b
  | _ => .bad
def fTst (f : Fe) : Env → R Bool := fun env => (f env).bind asB
theorem sb_of {K : PySem.W.Frag} {te : TE} {f : Fe} {tt : TT} (hs : SE K W te f) (ht : ∀ σ H Q, (te σ H fun v H' => ∃ k, v = .bl k ∧ Q k H') → tt σ H Q) : SB K W tt (fTst f) := by
  intro H0 F0 env σ tm H Q h k
  refine ht σ H Q (hs H0 F0 env σ tm H _ h (k.bind.imp fun c _ k1 v H1 h1 => ?_))
  have r := h1.last
  unfold asB at k1
  split at k1
  · rename_i b e
    rw [e] at r
    exact ⟨b, rep_bl r, k1 H1 h1.drop⟩
  · exact k1.elim
/-- a value that is a bool, as a test (he by intro _; rfl) -/
theorem pq_val (h : PF X W e te fa) (he : ∀ whole, isTrue e X.env whole = (do let v ← whole; standAt e.pos; holding [v] (truthy v)) := by intro _; rfl) : PQ X W e (tB te) (fTst fa) := ⟨pt_val h.p he, sb_of h.s fun _ _ _ q => q⟩
theorem pq_cmp {op : CmpOp} {r : R2} {g : Cl → Cl → R Cl} (ho : OpR X (compareOp op) r) (hr : SR X.K W r g) (ha : PF X W a ta fa) (hb : PF X W b tb fb) (hm : behindInMarks op b = false) : PQ X W (.Compare a [op] [b] pos) (tTest (tOp r ta tb)) (fTst (fB g fa fb)) :=
  ⟨pt_cmpR ho ha.p hb.p hm, sb_of (se_op hr ha.s hb.s) fun _ _ _ q => q⟩
theorem pq_lt (ha : PF X W a ta fa) (hb : PF X W b tb fb) : PQ X W (.Compare a [.Lt] [b] pos) (tTest (tOp kLt ta tb)) (fTst (fLt fa fb)) := pq_cmp op_lt sr_B0 ha hb (nomark _)
theorem pq_le (ha : PF X W a ta fa) (hb : PF X W b tb fb) : PQ X W (.Compare a [.LtE] [b] pos) (tTest (tOp kLe ta tb)) (fTst (fLe fa fb)) := pq_cmp op_le sr_B0 ha hb (nomark _)
theorem pq_gt (ha : PF X W a ta fa) (hb : PF X W b tb fb) : PQ X W (.Compare a [.Gt] [b] pos) (tTest (tOp kGt ta tb)) (fTst (fGt fa fb)) := pq_cmp op_gt sr_B0 ha hb (nomark _)
theorem pq_ge (ha : PF X W a ta fa) (hb : PF X W b tb fb) : PQ X W (.Compare a [.GtE] [b] pos) (tTest (tOp kGe ta tb)) (fTst (fGe fa fb)) := pq_cmp op_ge sr_B0 ha hb (nomark _)
def fAnd (p q : Env → R Bool) : Env → R Bool := fun env => (p env).bind fun b => if b = true then q env else .ok false
def fOr (p q : Env → R Bool) : Env → R Bool := fun env => (p env).bind fun b => if b = true then .ok true else q env
def fNot (p : Env → R Bool) : Env → R Bool := fun env => (p env).bind fun b => .ok (!b)
variable {tp tq : TT} {fp fq : Env → R Bool} {rest : List Expr}
theorem sb_and {K : PySem.W.Frag} (h1 : SB K W tp fp) (h2 : SB K W tq fq) : SB K W (tAnd tp tq) (fAnd fp fq) := by
  intro H0 F0 env σ tm H Q h k
  refine h1 H0 F0 env σ tm H _ h (k.bind.imp fun b _ k1 H1 hs => ?_)
  cases b with
  | true => rw [if_pos rfl] at k1 ⊢; exact h2 H0 F0 env σ tm H1 Q hs k1
  | false => rw [if_neg Bool.false_ne_true] at k1 ⊢; exact k1 H1 hs
theorem sb_or {K : PySem.W.Frag} (h1 : SB K W tp fp) (h2 : SB K W tq fq) : SB K W (tOr tp tq) (fOr fp fq) := by
  intro H0 F0 env σ tm H Q h k
  refine h1 H0 F0 env σ tm H _ h (k.bind.imp fun b _ k1 H1 hs => ?_)
  cases b with
  | false => rw [if_neg Bool.false_ne_true] at k1 ⊢; exact h2 H0 F0 env σ tm H1 Q hs k1
  | true => rw [if_pos rfl] at k1 ⊢; exact k1 H1 hs
theorem sb_not {K : PySem.W.Frag} (h1 : SB K W tp fp) : SB K W (tNot tp) (fNot fp) := by
  intro H0 F0 env σ tm H Q h k
  exact h1 H0 F0 env σ tm H _ h (k.bind.imp fun b _ k1 H1 hs => k1 H1 hs)
theorem pw_a1 (h : PQ X W a tp fp) : PWQ X W (.BoolOp .And [a] pos) tp fp := ⟨pw_and1 h.p, h.s⟩
theorem pw_o1 (h : PQ X W a tp fp) : PWQ X W (.BoolOp .Or [a] pos) tp fp := ⟨pw_or1 h.p, h.s⟩
theorem pw_a (h : PQ X W a tp fp) (h2 : PWQ X W (.BoolOp .And (b :: rest) pos) tq fq) : PWQ X W (.BoolOp .And (a :: b :: rest) pos) (tAnd tp tq) (fAnd fp fq) := ⟨L2.pw_and h.p h2.p, sb_and h.s h2.s⟩
theorem pw_o (h : PQ X W a tp fp) (h2 : PWQ X W (.BoolOp .Or (b :: rest) pos) tq fq) : PWQ X W (.BoolOp .Or (a :: b :: rest) pos) (tOr tp tq) (fOr fp fq) := ⟨L2.pw_or h.p h2.p, sb_or h.s h2.s⟩
theorem pq_w (h : PWQ X W e tp fp) : PQ X W e tp fp := ⟨h.p.pt, h.s⟩
theorem pq_not (h : PQ X W a tp fp) : PQ X W (.UnaryOp .Not a pos) (tNot tp) (fNot fp) := ⟨pt_not h.p, sb_not h.s⟩
/-! bools as values -/
def clB (b : Bool) : Cl := .own (.im (.bl b))
def fAndV (p q : Fe) : Fe := fun env => (p env).bind fun c => (asB c).bind fun b => if b = true then q env else .ok (clB false)
def fOrV (p q : Fe) : Fe := fun env => (p env).bind fun c => (asB c).bind fun b => if b = true then .ok (clB true) else q env
def fNotV (p : Fe) : Fe := fun env => (p env).bind fun c => (asB c).bind fun b => .ok (clB (!b))
theorem asB_rep {K : PySem.W.Frag} {H : Hp} {c : Cl} {v : V} {b : Bool} (e : asB c = .ok b) (r : Rep K H v c.toD) : v = .bl b := by
  unfold asB at e
  split at e
  · rename_i b' e'; cases e; rw [e'] at r; exact rep_bl r
  · exact nomatch e
theorem se_andV {K : PySem.W.Frag} (h1 : SE K W ta fa) (h2 : SE K W tb fb) : SE K W (tAndV ta tb) (fAndV fa fb) := by
  intro H0 F0 env σ tm H Q h k
  refine h1 H0 F0 env σ tm H _ h (k.bind.imp fun c _ k1 v H1 hs => ?_)
  cases e : asB c with
  | ok b =>
    rw [e] at k1
    refine ⟨b, asB_rep e hs.last, ?_⟩
    cases b with
    | true => rw [if_pos rfl]; exact h2 H0 F0 env σ tm H1 Q hs.drop k1
    | false => rw [if_neg Bool.false_ne_true]; exact k1 _ H1 (hs.drop.push_bl false)
  | ex x fs => unfold asB at e; split at e <;> exact nomatch e
  | bad => rw [e] at k1; exact k1.elim
theorem se_orV {K : PySem.W.Frag} (h1 : SE K W ta fa) (h2 : SE K W tb fb) : SE K W (tOrV ta tb) (fOrV fa fb) := by
  intro H0 F0 env σ tm H Q h k
  refine h1 H0 F0 env σ tm H _ h (k.bind.imp fun c _ k1 v H1 hs => ?_)
  cases e : asB c with
  | ok b =>
    rw [e] at k1
    refine ⟨b, asB_rep e hs.last, ?_⟩
    cases b with
    | false => rw [if_neg Bool.false_ne_true]; exact h2 H0 F0 env σ tm H1 Q hs.drop k1
    | true => rw [if_pos rfl]; exact k1 _ H1 (hs.drop.push_bl true)
  | ex x fs => unfold asB at e; split at e <;> exact nomatch e
  | bad => rw [e] at k1; exact k1.elim
theorem se_notV {K : PySem.W.Frag} (h1 : SE K W ta fa) : SE K W (tNotV ta) (fNotV fa) := by
  intro H0 F0 env σ tm H Q h k
  refine h1 H0 F0 env σ tm H _ h (k.bind.imp fun c _ k1 v H1 hs => ?_)
  cases e : asB c with
  | ok b =>
    rw [e] at k1
    exact ⟨b, asB_rep e hs.last, k1 _ H1 (hs.drop.push_bl _)⟩
  | ex x fs => unfold asB at e; split at e <;> exact nomatch e
  | bad => rw [e] at k1; exact k1.elim
theorem pf_one {op} (h : PF X W a ta fa) : PF X W (.BoolOp op [a] pos) ta fa := ⟨pe_one h.p, h.s⟩
theorem pf_and (h : PF X W a ta fa) (h2 : PF X W (.BoolOp .And (b :: rest) pos) tb fb) : PF X W (.BoolOp .And (a :: b :: rest) pos) (tAndV ta tb) (fAndV fa fb) := ⟨pe_and h.p h2.p, se_andV h.s h2.s⟩
theorem pf_or (h : PF X W a ta fa) (h2 : PF X W (.BoolOp .Or (b :: rest) pos) tb fb) : PF X W (.BoolOp .Or (a :: b :: rest) pos) (tOrV ta tb) (fOrV fa fb) := ⟨pe_or h.p h2.p, se_orV h.s h2.s⟩
theorem pf_not (h : PF X W a ta fa) : PF X W (.UnaryOp .Not a pos) (tNotV ta) (fNotV fa) := ⟨pe_not h.p, se_notV h.s⟩
/-- a if t else b -/
def fIf (p : Env → R Bool) (fa fb : Fe) : Fe := fun env => (p env).bind fun b => if b = true then fa env else fb env
theorem pf_if {c : Expr} (hc : PQ X W c tp fp) (ha : PF X W a ta fa) (hb : PF X W b tb fb) : PF X W (.IfExp c a b pos) (tIf tp ta tb) (fIf fp fa fb) := by
  refine ⟨pe_ifExp hc.p ha.p hb.p, ?_⟩
  intro H0 F0 env σ tm H Q h k
  refine hc.s H0 F0 env σ tm H _ h (k.bind.imp fun c _ k1 H1 hs => ?_)
  cases c with
  | true => rw [if_pos rfl] at k1 ⊢; exact ha.s H0 F0 env σ tm H1 Q hs k1
  | false => rw [if_neg Bool.false_ne_true] at k1 ⊢; exact hb.s H0 F0 env σ tm H1 Q hs k1
/-- a < b < c -/
def fChain (g g' : Cl → Cl → R Cl) (fa fb fc : Fe) : Fe := fun env => (fa env).bind fun x => (fb env).bind fun y => (g x y).bind fun z => (asB z).bind fun k => if k = true then (fc env).bind fun w => g' y w else .ok (clB false)
end
end NW
set_option Elab.async false
set_option linter.all false
set_option maxRecDepth 100000
set_option maxHeartbeats 2000000
namespace NW
open PySem L2
open Evl (Ex)

/-- the items of a sequence: is it a list; its items -/
def M.items : M → Option (Bool × List M)
  | .im (.lst ds) => some (true, ds.map .im)
  | .im (.tup ds) => some (false, ds.map .im)
  | .im (.fz ns) => some (true, ns.map fun n => .im (.int n))
  | .bo (.lst ds) => some (true, ds.map .bo)
  | .bo (.tup ds) => some (false, ds.map .bo)
  | .bo (.fz ns) => some (true, ns.map fun n => .im (.int n))
  | .lst ms => some (true, ms)
  | .tup ms => some (false, ms)
  | _ => none
section
variable {K : PySem.W.Frag} {W : WX} {H0 F0 F H : Hp} {env : Env} {σ : L2.St} {tm ts : Tm} {lab : Lab} {c c' : Cl} {v v' : V} {m : M}
theorem rms_im : ∀ {ds : List D} {vs : List V} {n : Nat}, Reps K F vs ds → RMs K H0 F H lab none n (ds.map .im) vs
  | _, _, _, .nil => .nil
  | _, _, _, .cons r s => .cons (.im r) (rms_im s)
theorem rms_bo : ∀ {ds : List D} {vs : List V} {n : Nat}, Reps K H0 vs ds → RMs K H0 F H lab none n (ds.map .bo) vs
  | _, _, _, .nil => .nil
  | _, _, _, .cons r s => .cons (.bo r) (rms_bo s)
theorem rms_fz : ∀ {ns : List Int} {n : Nat}, RMs K H0 F H lab none n (ns.map fun n => .im (.int n)) (ns.map V.int)
  | [], _ => .nil
  | n :: ns, _ => .cons (.im (.int n)) rms_fz
theorem items_of {k : Bool} {ms : List M} (fe : Ex F H) (e0 : Ex H0 H) (r : RM K H0 F H lab none m v) (e : m.items = some (k, ms)) :
    ∃ a vs, v = .ref a ∧ (k = true → SqL K H a vs) ∧ (k = false → SqT K H a vs) ∧ RMs K H0 F H lab none 0 ms vs := by
  cases r with
  | im r =>
    cases r with
    | lst h s => cases e; exact ⟨_, _, rfl, fun _ => SqL.of (fe _ _ h), fun q => (nomatch q), rms_im s⟩
    | tup h s => cases e; exact ⟨_, _, rfl, fun q => (nomatch q), fun _ => Evl.ex_t fe h, rms_im s⟩
    | fz h => cases e; exact ⟨_, _, rfl, fun _ => Evl.ex_l fe h, fun q => (nomatch q), rms_fz⟩
    | non => exact nomatch e
    | bl b => exact nomatch e
    | int i => exact nomatch e
    | str x => exact nomatch e
    | obj h s => exact nomatch e
    | dK h s => exact nomatch e
    | dT h s => exact nomatch e
    | exc _ _ _ _ => exact nomatch e
    | exd _ _ _ _ _ _ => exact nomatch e
  | bo r =>
    cases r with
    | lst h s => cases e; exact ⟨_, _, rfl, fun _ => SqL.of (e0 _ _ h), fun q => (nomatch q), rms_bo s⟩
    | tup h s => cases e; exact ⟨_, _, rfl, fun q => (nomatch q), fun _ => Evl.ex_t e0 h, rms_bo s⟩
    | fz h => cases e; exact ⟨_, _, rfl, fun _ => Evl.ex_l e0 h, fun q => (nomatch q), rms_fz⟩
    | non => exact nomatch e
    | bl b => exact nomatch e
    | int i => exact nomatch e
    | str x => exact nomatch e
    | obj h s => exact nomatch e
    | dK h s => exact nomatch e
    | dT h s => exact nomatch e
    | exc _ _ _ _ => exact nomatch e
    | exd _ _ _ _ _ _ => exact nomatch e
  | lst h w s => cases e; exact ⟨_, _, rfl, fun _ => SqL.of h, fun q => (nomatch q), s⟩
  | tup h w s => cases e; exact ⟨_, _, rfl, fun q => (nomatch q), fun _ => SqT.of h, s⟩
  | obj h w s => exact nomatch e
  | dK h w s => exact nomatch e
  | dT h w s => exact nomatch e
theorem view_m (m : M) : (view m).m = m := by cases m <;> rfl
theorem view_kind (m : M) : (∃ d, view m = .own (.im d)) ∨ (∃ d, view m = .own (.bo d)) ∨ ∃ m', view m = .vw m' := by
  cases m with
  | im d => exact .inl ⟨d, rfl⟩
  | bo d => exact .inr (.inl ⟨d, rfl⟩)
  | lst ms => exact .inr (.inr ⟨_, rfl⟩)
  | tup ms => exact .inr (.inr ⟨_, rfl⟩)
  | obj c fs => exact .inr (.inr ⟨_, rfl⟩)
  | dK kvs => exact .inr (.inr ⟨_, rfl⟩)
  | dT kvs => exact .inr (.inr ⟨_, rfl⟩)
/-- the last temp's tree -/
theorem St.tree (h : St K H0 F0 env σ (tm ++ (c, v) :: ts) H) : ∃ F lab, Ex F H ∧ Ex H0 H ∧ RM K H0 F H lab none c.m v := by
  obtain ⟨F, lab, x⟩ := h
  exact ⟨F, lab, x.fe, x.e0, (x.tmp tm.length c v (by simp)).any⟩
/-- the items of the last temp, and that any of them may stand in its place -/
theorem St.itemsOf {k : Bool} {ms : List M} (h : St K H0 F0 env σ (tm ++ [(c, v)]) H) (e : c.m.items = some (k, ms)) :
    ∃ a vs, v = .ref a ∧ (k = true → SqL K H a vs) ∧ (k = false → SqT K H a vs) ∧ vs.length = ms.length ∧ Reps K H vs (M.toDs ms) ∧
      ∀ (j : Nat) (m : M), ms[j]? = some m → ∃ w, vs[j]? = some w ∧ St K H0 F0 env σ (tm ++ [(view m, w)]) H := by
  obtain ⟨F, lab, x⟩ := h
  obtain ⟨a, vs, rfl, h1, h2, h3⟩ := items_of x.fe x.e0 (x.tmp tm.length c v (last_get tm _)).any e
  refine ⟨a, vs, rfl, h1, h2, h3.len.symm, RMs.data x.e0 x.fe h3, fun j m hj => ?_⟩
  obtain ⟨w, w1, w2⟩ := h3.get hj
  refine ⟨w, w1, F, lab, Fra.push { x with tmp := fun j c v e => x.tmp j c v (by
    have := (List.getElem?_eq_some_iff.mp e).1
    rw [List.getElem?_append_left this]; exact e) } ?_⟩
  have w3 : RM K H0 F H lab none m w := w2
  rcases view_kind m with ⟨d, q⟩ | ⟨d, q⟩ | ⟨m', q⟩
  · have : m = .im d := by rw [← view_m m, q]; rfl
    subst this
    cases w3 with | im r => exact .im r
  · have : m = .bo d := by rw [← view_m m, q]; rfl
    subst this
    cases w3 with | bo r => exact .bo r
  · have : m = m' := by rw [← view_m m, q]; rfl
    subst this
    rw [q]; exact w3
/-! ### an item -/
def gIx : Cl → Cl → R Cl := fun x y => match x.m.items, y.toD with
  | some (_, ms), .int i => (match atI ms i with
    | some m => .ok (view m)
    | none => .bad)
  | _, _ => .bad
theorem atI_of {α β : Type} {xs : List α} {ys : List β} {i : Int} {x : α} (h : atI xs i = some x) (hl : ys.length = xs.length) (k : ∀ j : Nat, xs[j]? = some x → ∃ y, ys[j]? = some y) : ∃ (j : Nat) (y : β), xs[j]? = some x ∧ ys[j]? = some y ∧ atI ys i = some y := by
  unfold atI at h ⊢
  rw [hl]
  cases e : ixN xs.length i with
  | none => rw [e] at h; exact nomatch h
  | some j =>
    rw [e] at h
    obtain ⟨y, hy⟩ := k j h
    exact ⟨j, y, h, hy, hy⟩
theorem sr_ix : SR K W (rIx K) gIx := by
  intro H0 F0 env σ tm x y v w H Q h k
  obtain ⟨_, r2, _⟩ := h.two
  unfold gIx at k
  split at k
  · rename_i kd ms i e1 e2
    rw [e2] at r2
    rw [rep_int r2]
    split at k
    · rename_i m e3
      obtain ⟨a, vs, rfl, h1, h2, h3, _, h4⟩ := h.drop.itemsOf e1
      obtain ⟨j, u, u1, u2, u3⟩ := atI_of (ys := vs) e3 h3 fun j hj => by obtain ⟨u, hu, _⟩ := h4 j m hj; exact ⟨u, hu⟩
      obtain ⟨u', q1, q2⟩ := h4 j m u1
      rw [u2] at q1; cases q1
      cases kd with
      | true => exact .inl ⟨a, vs, i, u, rfl, rfl, h1 rfl, u3, k u H q2⟩
      | false => exact .inr (.inl ⟨a, vs, i, u, rfl, rfl, h2 rfl, u3, k u H q2⟩)
    · exact k.elim
  · exact k.elim
abbrev fIx := fB gIx
/-! ### arguments -/
def fNil : Env → R (List Cl) := fun _ => .ok []
def fCons (f : Fe) (g : Env → R (List Cl)) : Env → R (List Cl) := fun env => (f env).bind fun c => (g env).bind fun cs => .ok (c :: cs)
theorem sa_nil : SA K W tNil fNil := fun H0 F0 env σ tm H Q h k => k [] H rfl (by simpa using h)
theorem sa_cons {te : TE} {ta : TA} {f : Fe} {g : Env → R (List Cl)} (h1 : SE K W te f) (h2 : SA K W ta g) : SA K W (tCons te ta) (fCons f g) := by
  intro H0 F0 env σ tm H Q h k
  refine h1 H0 F0 env σ tm H _ h (k.bind.imp fun c _ k1 v H1 hs => ?_)
  refine h2 H0 F0 env σ _ H1 _ hs (k1.bind.more.imp fun cs _ k2 vs H2 hl hs2 => ?_)
  exact k2 (v :: vs) H2 (by simp [hl]) (by simpa using hs2)
/-! ### displays -/
def Cl.owned : Cl → Option M
  | .own m => some m
  | .vw _ => none
def ownAll : List Cl → Option (List M)
  | [] => some []
  | c :: cs => match c.owned, ownAll cs with
    | some m, some ms => some (m :: ms)
    | _, _ => none
theorem ownAll_row : ∀ {cs : List Cl} {ms : List M} {vs : List V}, ownAll cs = some ms → vs.length = cs.length → cs.zip vs = rowT ms vs ∧ ms.length = vs.length
  | [], ms, vs, h, hl => by cases h; cases vs with
    | nil => exact ⟨rfl, rfl⟩
    | cons v vs => simp at hl
  | c :: cs, ms, vs, h, hl => by
    cases vs with
    | nil => simp at hl
    | cons v vs =>
      unfold ownAll at h
      split at h
      · rename_i m ms' e1 e2
        cases h
        obtain ⟨q1, q2⟩ := ownAll_row (vs := vs) e2 (by simpa using hl)
        cases c with
        | own m' =>
          cases e1
          exact ⟨by simp [rowT] at q1 ⊢; exact q1, by simp [q2]⟩
        | vw m' => exact nomatch e1
      · exact nomatch h
def isIm : M → Bool
  | .im _ => true
  | _ => false
/-- a tuple of frozen things is frozen -/
def mkTup (ms : List M) : M := if ms.all isIm = true then .im (.tup (M.toDs ms)) else .tup ms
theorem pures_im : ∀ {ms : List M}, ms.all isIm = true → M.pures ms = true
  | [], _ => by simp [M.pures]
  | m :: ms, h => by
    simp at h
    rw [M.pures]
    have h2 := pures_im (ms := ms) (List.all_eq_true.mpr h.2)
    rw [h2]
    cases m with
    | im d => rfl
    | _ => exact nomatch h.1
theorem St.newTup' {ms : List M} {vs : List V} {p : Addr} (hl : ms.length = vs.length) (h : St K H0 F0 env σ (tm ++ rowT ms vs) H) (hp : H p = none) : St K H0 F0 env σ (tm ++ [(.own (mkTup ms), .ref p)]) (upd H p (.tup vs)) := by
  have h1 := h.newTup hl hp
  unfold mkTup
  split
  · rename_i q
    have := h1.freezeT (ts := []) (by rw [M.pure]; exact pures_im q)
    rw [M.toD] at this; exact this
  · exact h1
def lenOk (n : Nat) : Bool := decide (n ≤ 100000)
theorem lenOk_ok {n : Nat} (h : lenOk n = true) : n ≤ sizeLine := Evl.sz_of (of_decide_eq_true h)
def fLst (f : Env → R (List Cl)) : Fe := fun env => (f env).bind fun cs => match ownAll cs with
  | some ms => if lenOk ms.length = true then .ok (.own (.lst ms)) else .bad
  | none => .bad
def fTup (f : Env → R (List Cl)) : Fe := fun env => (f env).bind fun cs => match ownAll cs with
  | some ms => if lenOk ms.length = true then .ok (.own (mkTup ms)) else .bad
  | none => .bad
theorem se_lst {ta : TA} {f : Env → R (List Cl)} (h1 : SA K W ta f) : SE K W (tLst ta) (fLst f) := by
  intro H0 F0 env σ tm H Q h k
  refine h1 H0 F0 env σ tm H _ h (k.bind.imp fun cs _ k1 vs H1 hl hs => ?_)
  split at k1
  · rename_i ms e
    obtain ⟨q1, q2⟩ := ownAll_row e hl
    rw [q1] at hs
    split at k1
    · rename_i c
      exact ⟨by rw [← q2]; exact lenOk_ok c, fun p hp => k1 _ _ (hs.newLst q2 hp)⟩
    · exact k1.elim
  · exact k1.elim
theorem se_tup {ta : TA} {f : Env → R (List Cl)} (h1 : SA K W ta f) : SE K W (tTup ta) (fTup f) := by
  intro H0 F0 env σ tm H Q h k
  refine h1 H0 F0 env σ tm H _ h (k.bind.imp fun cs _ k1 vs H1 hl hs => ?_)
  split at k1
  · rename_i ms e
    obtain ⟨q1, q2⟩ := ownAll_row e hl
    rw [q1] at hs
    split at k1
    · rename_i c
      exact ⟨by rw [← q2]; exact lenOk_ok c, fun p hp => k1 _ _ (hs.newTup' q2 hp)⟩
    · exact k1.elim
  · exact k1.elim
/-! ### built-in calls -/
/-- what a rule of values must do for g -/
def SC (K : PySem.W.Frag) (W : WX) (r : List V → Hp → VK → Prop) (g : List Cl → R Cl) : Prop := ∀ (H0 F0 : Hp) (env : Env) (σ : L2.St) (tm : Tm) (cs : List Cl) (vs : List V) (H : Hp) (Q : VK), vs.length = cs.length → St K H0 F0 env σ (tm ++ cs.zip vs) H →
  GoodR K W H0 F0 env σ tm (g cs) (fun c => ∀ u H', St K H0 F0 env σ (tm ++ [(c, u)]) H' → Q u H') → r vs H Q
def fCB (g : List Cl → R Cl) (f : Env → R (List Cl)) : Fe := fun env => (f env).bind g
theorem se_cb {r : List V → Hp → VK → Prop} {g : List Cl → R Cl} {ta : TA} {f : Env → R (List Cl)} (hr : SC K W r g) (h1 : SA K W ta f) : SE K W (tCB r ta) (fCB g f) := by
  intro H0 F0 env σ tm H Q h k
  exact h1 H0 F0 env σ tm H _ h (k.bind.imp fun cs _ k1 vs H1 hl hs => hr H0 F0 env σ tm cs vs H1 Q hl hs k1)
theorem zip1 {c : Cl} {vs : List V} (h : vs.length = [c].length) : ∃ v, vs = [v] ∧ [c].zip vs = [(c, v)] := by
  match vs, h with
  | [v], _ => exact ⟨v, rfl, rfl⟩
theorem zip2 {c d : Cl} {vs : List V} (h : vs.length = [c, d].length) : ∃ v w, vs = [v, w] ∧ [c, d].zip vs = [(c, v), (d, w)] := by
  match vs, h with
  | [v, w], _ => exact ⟨v, w, rfl, rfl⟩
def gAbs : List Cl → R Cl
  | [c] => (match c.toD with
    | .int i => okI (if i < 0 then -i else i)
    | _ => .bad)
  | _ => .bad
def rAbs : List V → Hp → VK → Prop := fun xs H Q => ∃ i, xs = [.int i] ∧ Q (.int (if i < 0 then -i else i)) H
theorem sc_abs : SC K W rAbs gAbs := by
  intro H0 F0 env σ tm cs vs H Q hl h k
  unfold gAbs at k
  split at k
  · rename_i c
    obtain ⟨v, rfl, e⟩ := zip1 hl
    rw [e] at h
    have r := h.last
    split at k
    · rename_i i e2
      rw [e2] at r
      exact ⟨i, by rw [rep_int r], k _ H (h.drop.push_int _)⟩
    · exact k.elim
  · exact k.elim
def gInt : List Cl → R Cl
  | [c] => (match c.toD with
    | .int i => okI i
    | .bl b => okI (if b then 1 else 0)
    | _ => .bad)
  | _ => .bad
def rInt : List V → Hp → VK → Prop := fun xs H Q => (∃ i, xs = [.int i] ∧ Q (.int i) H) ∨ ∃ k, xs = [.bl k] ∧ Q (.int (if k then 1 else 0)) H
theorem sc_int : SC K W rInt gInt := by
  intro H0 F0 env σ tm cs vs H Q hl h k
  unfold gInt at k
  split at k
  · rename_i c
    obtain ⟨v, rfl, e⟩ := zip1 hl
    rw [e] at h
    have r := h.last
    split at k
    · rename_i i e2
      rw [e2] at r
      exact .inl ⟨i, by rw [rep_int r], k _ H (h.drop.push_int _)⟩
    · rename_i b e2
      rw [e2] at r
      exact .inr ⟨b, by rw [rep_bl r], k _ H (h.drop.push_int _)⟩
    · exact k.elim
  · exact k.elim
def gGcd : List Cl → R Cl
  | [c, d] => (match c.toD, d.toD with
    | .int i, .int j => okI ((Nat.gcd i.natAbs j.natAbs : Nat) : Int)
    | _, _ => .bad)
  | _ => .bad
theorem sc_gcd : SC K W rGcd gGcd := by
  intro H0 F0 env σ tm cs vs H Q hl h k
  unfold gGcd at k
  split at k
  · rename_i c d
    obtain ⟨v, w, rfl, e⟩ := zip2 hl
    rw [e] at h
    have r1 := h.at
    have r2 := h.data (j := tm.length + 1) (c := d) (v := w) (by rw [List.getElem?_append_right (by omega)]; simp)
    split at k
    · rename_i i j e1 e2
      rw [e1] at r1; rw [e2] at r2
      exact ⟨i, j, by rw [rep_int r1, rep_int r2], k _ H (h.drop.push_int _)⟩
    · exact k.elim
  · exact k.elim
def gMax2 (f : Int → Int → Int) : List Cl → R Cl
  | [c, d] => (match c.toD, d.toD with
    | .int i, .int j => okI (f i j)
    | _, _ => .bad)
  | _ => .bad
def rM2 (f : Int → Int → Int) : List V → Hp → VK → Prop := fun xs H Q => ∃ i j, xs = [.int i, .int j] ∧ Q (.int (f i j)) H
theorem sc_m2 {f : Int → Int → Int} : SC K W (rM2 f) (gMax2 f) := by
  intro H0 F0 env σ tm cs vs H Q hl h k
  unfold gMax2 at k
  split at k
  · rename_i c d
    obtain ⟨v, w, rfl, e⟩ := zip2 hl
    rw [e] at h
    have r1 := h.at
    have r2 := h.data (j := tm.length + 1) (c := d) (v := w) (by rw [List.getElem?_append_right (by omega)]; simp)
    split at k
    · rename_i i j e1 e2
      rw [e1] at r1; rw [e2] at r2
      exact ⟨i, j, by rw [rep_int r1, rep_int r2], k _ H (h.drop.push_int _)⟩
    · exact k.elim
  · exact k.elim
/-- len -/
def gLen : List Cl → R Cl
  | [c] => (match c.m.items with
    | some (_, ms) => okI ms.length
    | none => (match c.toD with
      | .dK kvs => okI kvs.length
      | .str x => if lenOk x.length = true then okI x.length else .bad
      | _ => .bad))
  | _ => .bad
theorem RepK.len {K : PySem.W.Frag} {H : Hp} : ∀ {vs : List (Key × V)} {ds : List (Key × D)}, RepK K H vs ds → vs.length = ds.length
  | _, _, .nil => rfl
  | _, _, .cons _ r => by simp [RepK.len r]
def rLen' (K : PySem.W.Frag) : List V → Hp → VK → Prop := fun xs H Q => (∃ p ys, xs = [.ref p] ∧ (SqL K H p ys ∨ SqT K H p ys) ∧ Q (.int ys.length) H) ∨
  (∃ z, xs = [.str z] ∧ z.length ≤ sizeLine ∧ Q (.int z.length) H) ∨ ∃ a kvs, xs = [V.ref a] ∧ H a = some (.dK kvs) ∧ Q (.int kvs.length) H
theorem sc_len : SC K W (rLen' K) gLen := by
  intro H0 F0 env σ tm cs vs H Q hl h k
  unfold gLen at k
  split at k
  · rename_i c
    obtain ⟨v, rfl, e⟩ := zip1 hl
    rw [e] at h
    split at k
    · rename_i kd ms e1
      obtain ⟨a, ws, rfl, h1, h2, h3, _, _⟩ := h.itemsOf e1
      refine .inl ⟨a, ws, rfl, ?_, by rw [h3]; exact k _ H (h.drop.push_int _)⟩
      cases kd with
      | true => exact .inl (h1 rfl)
      | false => exact .inr (h2 rfl)
    · have r := h.last
      split at k
      · rename_i kvs e2
        rw [e2] at r
        cases r with
        | dK hh rr => exact .inr (.inr ⟨_, _, rfl, hh, by rw [rr.len]; exact k _ H (h.drop.push_int _)⟩)
      · rename_i x e2
        rw [e2] at r
        split at k
        · rename_i q
          exact .inr (.inl ⟨x, by rw [rep_str r], lenOk_ok q, k _ H (h.drop.push_int _)⟩)
        · exact k.elim
      · exact k.elim
  · exact k.elim
end
end NW
set_option Elab.async false
set_option linter.all false
set_option maxRecDepth 100000
set_option maxHeartbeats 2000000
namespace NW
open PySem L2
open Evl (Ex)

inductive Out where
  | nx (e : Env) | rt (m : M) | bk (e : Env) | ct (e : Env) | ex (e : Env) (x : Str) (fs : List (Str × D)) | bad
/-- the value that a body hands back -/
def Ret (K : PySem.W.Frag) (H0 F0 : Hp) (m : M) (v : V) (H : Hp) : Prop := m.pure = true ∧ Ex H0 H ∧ ∃ F lab, Ex F0 F ∧ Ex F H ∧ (∀ a o, F a = some o → F0 a = some o ∨ H0 a = none) ∧
  (∀ a L, lab a = some L → F a = none ∧ H0 a = none ∧ ∃ o, H a = some o) ∧ RM K H0 F H lab (some (false, 0, [])) m v
def GoodS (K : PySem.W.Frag) (W : WX) (H0 F0 : Hp) (D : Ends) (tm : Tm) : Out → Prop
  | .nx e => ∀ σ H, St K H0 F0 e σ tm H → D.nx σ H
  | .rt m => ∀ v H, Ret K H0 F0 m v H → D.rt v H
  | .bk e => ∀ σ H, St K H0 F0 e σ tm H → D.bk σ H
  | .ct e => ∀ σ H, St K H0 F0 e σ tm H → D.ct σ H
  | .ex e x fs => ∀ cls d σ H, StX K H0 F0 e σ tm H x fs cls d → W cls d σ H
  | .bad => False
def SS (K : PySem.W.Frag) (W : WX) (ts : TS) (f : Env → Out) : Prop := ∀ (H0 F0 : Hp) (D : Ends) (env : Env) (σ : L2.St) (tm : Tm) (H : Hp), Owns tm → St K H0 F0 env σ tm H → GoodS K W H0 F0 D tm (f env) → ts D σ H
structure PSF (X : Cx) (W : WX) (st : Stmt) (ts : TS) (f : Env → Out) : Prop where
  p : PS X st ts
  s : SS X.K W ts f
structure PBF (X : Cx) (W : WX) (sts : List Stmt) (ts : TS) (f : Env → Out) : Prop where
  p : PSs X sts ts
  s : SS X.K W ts f
/-- an expression's answer, as a statement goes on with it -/
def goE {α : Type} (env : Env) (r : R α) (k : α → Out) : Out := match r with
  | .ok a => k a
  | .ex x fs => .ex env x fs
  | .bad => .bad
section
variable {K : PySem.W.Frag} {W : WX} {H0 F0 F H : Hp} {env : Env} {σ : L2.St} {tm ts : Tm} {lab : Lab} {c c' : Cl} {v v' : V} {m : M} {D : Ends} {i : Nat}
theorem goE_good {α : Type} {r : R α} {k : α → Out} (h : GoodS K W H0 F0 D tm (goE env r k)) (hs : St K H0 F0 env σ tm H) {q : α → Prop} (kq : ∀ a, GoodS K W H0 F0 D tm (k a) → q a) : GoodR K W H0 F0 env σ tm r q := by
  cases r with
  | ok a => exact kq a h
  | ex x fs => exact fun cls d H' h' => h cls d σ H' h'
  | bad => exact h
@[simp] theorem goE_ok {α : Type} (a : α) (k : α → Out) : goE env (.ok a) k = k a := rfl
@[simp] theorem goE_bad {α : Type} (k : α → Out) : goE env (.bad : R α) k = .bad := rfl
@[simp] theorem goE_ex {α : Type} (x : Str) (fs : List (Str × NW.D)) (k : α → Out) : goE env (.ex x fs : R α) k = .ex env x fs := rfl
/-! ### blocks -/
def fSeq (f g : Env → Out) : Env → Out := fun env => match f env with
  | .nx e => g e
  | o => o
theorem ss_seq {t u : TS} {f g : Env → Out} (h1 : SS K W t f) (h2 : SS K W u g) : SS K W (tSeq t u) (fSeq f g) := by
  intro H0 F0 D env σ tm H hw h k
  refine h1 H0 F0 { D with nx := u D } env σ tm H hw h ?_
  unfold fSeq at k
  cases e : f env with
  | nx e' => rw [e] at k; exact fun σ' H' h' => h2 H0 F0 D e' σ' tm H' hw h' k
  | rt m => rw [e] at k; exact k
  | bk e' => rw [e] at k; exact k
  | ct e' => rw [e] at k; exact k
  | ex e' x fs => rw [e] at k; exact k
  | bad => rw [e] at k; exact k
def fNext : Env → Out := fun env => .nx env
theorem ss_next : SS K W tNext fNext := fun H0 F0 D env σ tm H hw h k => k σ H h
theorem ss_brk : SS K W tBreak (fun env => .bk env) := fun H0 F0 D env σ tm H hw h k => k σ H h
theorem ss_cnt : SS K W tCont (fun env => .ct env) := fun H0 F0 D env σ tm H hw h k => k σ H h
/-! ### small statements -/
def fAsg (i : Nat) (f : Fe) : Env → Out := fun env => goE env (f env) fun c => match c with
  | .own m => .nx (env.set i (some m))
  | .vw _ => .bad
theorem ss_asg {te : TE} {f : Fe} (h1 : SE K W te f) : SS K W (tAsg te (gName i)) (fAsg i f) := by
  intro H0 F0 D env σ tm H hw h k
  refine h1 H0 F0 env σ tm H _ h (goE_good k h fun c k1 v H1 h1 => ?_)
  cases c with
  | own m => exact k1 _ H1 (h1.assign i)
  | vw m => exact k1.elim
/-- slot i's own tree frozen, if nothing in it is borrowed -/
def frz1 (i : Nat) (env : Env) : Env := match env[i]? with
  | some (some m) => if m.pure = true then env.set i (some (.im m.toD)) else env
  | _ => env
theorem St.frz1 (h : St K H0 F0 env σ tm H) : St K H0 F0 (NW.frz1 i env) σ tm H := by
  unfold NW.frz1
  split
  · rename_i m e
    split
    · rename_i p; exact h.freezeS e p
    · exact h
  · exact h
def fBef (i : Nat) (f : Env → Out) : Env → Out := fun env => f (frz1 i env)
theorem ss_bef {t : TS} {f : Env → Out} (h1 : SS K W t f) : SS K W t (fBef i f) := fun H0 F0 D env σ tm H hw h k => h1 H0 F0 D _ σ tm H hw h.frz1 k
def fAft (i : Nat) (f : Env → Out) : Env → Out := fun env => match f env with
  | .nx e => .nx (frz1 i e)
  | o => o
theorem ss_aft {t : TS} {f : Env → Out} (h1 : SS K W t f) : SS K W t (fAft i f) := by
  intro H0 F0 D env σ tm H hw h k
  refine h1 H0 F0 D env σ tm H hw h ?_
  unfold fAft at k
  cases e : f env with
  | nx e' => rw [e] at k; exact fun σ' H' h' => k σ' H' h'.frz1
  | rt m => rw [e] at k; exact k
  | bk e' => rw [e] at k; exact k
  | ct e' => rw [e] at k; exact k
  | ex e' x fs => rw [e] at k; exact k
  | bad => rw [e] at k; exact k
theorem Fra.ret (x : Fra K H0 F0 env σ tm H F lab) {b : Bool} {i : Nat} (r : RM K H0 F H lab (some (b, i, [])) m v) (p : m.pure = true) : Ret K H0 F0 m v H := by
  refine ⟨p, x.e0, F, NW.relab (fun b' i' => if b' = b ∧ i' = i then some (false, 0, []) else none) lab, x.f0, x.fe, x.new, fun a L h => ?_, ?_⟩
  · obtain ⟨L', e⟩ := relab_some h; exact x.own a L' e
  · exact RM.relab r (by simp)
theorem St.ret (h : St K H0 F0 env σ (tm ++ [(.own m, v)]) H) (p : m.pure = true) : Ret K H0 F0 m v H := by
  obtain ⟨F, lab, x⟩ := h
  exact x.ret (get_last_temp x) p
def fRet (f : Fe) : Env → Out := fun env => goE env (f env) fun c => match c with
  | .own m => if m.pure = true then .rt m else .bad
  | .vw _ => .bad
theorem ss_ret {te : TE} {f : Fe} (h1 : SE K W te f) : SS K W (tRet te) (fRet f) := by
  intro H0 F0 D env σ tm H hw h k
  refine h1 H0 F0 env σ tm H _ h (goE_good k h fun c k1 v H1 h1 => ?_)
  cases c with
  | own m =>
    simp only at k1
    split at k1
    · rename_i p; exact k1 v H1 (h1.ret p)
    · exact k1.elim
  | vw m => exact k1.elim
/-- return of a name: its tree is handed out -/
def fRetV (i : Nat) : Env → Out := fun env => match env[i]? with
  | some (some m) => if m.pure = true then .rt m else .bad
  | _ => .bad
theorem ss_retV : SS K W (tRet (tVar i)) (fRetV i) := by
  intro H0 F0 D env σ tm H hw h k
  unfold fRetV at k
  split at k
  · rename_i m e
    split at k
    · rename_i p
      obtain ⟨F, lab, x⟩ := h
      obtain ⟨v, h1, h2⟩ := x.slot i m e
      exact ⟨v, h1, k v H (x.ret h2 p)⟩
    · exact k.elim
  · exact k.elim
theorem ss_retN : SS K W tRetN (fun _ => .rt (.im .non)) := fun H0 F0 D env σ tm H hw h k => k .non H (h.push_non.ret rfl)
def fDrop (f : Fe) : Env → Out := fun env => goE env (f env) fun _ => .nx env
theorem ss_drop {te : TE} {f : Fe} (h1 : SE K W te f) : SS K W (tDrop te) (fDrop f) := by
  intro H0 F0 D env σ tm H hw h k
  exact h1 H0 F0 env σ tm H _ h (goE_good k h fun c k1 v H1 h1 => k1 σ H1 h1.drop)
def fIfS (p : Env → R Bool) (f g : Env → Out) : Env → Out := fun env => goE env (p env) fun b => if b = true then f env else g env
theorem ss_if {tt : TT} {t u : TS} {p : Env → R Bool} {f g : Env → Out} (hc : SB K W tt p) (h1 : SS K W t f) (h2 : SS K W u g) : SS K W (tIfS tt t u) (fIfS p f g) := by
  intro H0 F0 D env σ tm H hw h k
  refine hc H0 F0 env σ tm H _ h (goE_good k h fun b k1 H1 hs => ?_)
  cases b with
  | true => rw [if_pos rfl] at k1 ⊢; exact h1 H0 F0 D env σ tm H1 hw hs k1
  | false => rw [if_neg Bool.false_ne_true] at k1 ⊢; exact h2 H0 F0 D env σ tm H1 hw hs k1
/-- x.append(e) -/
def smOk (n : Nat) : Bool := decide (n < 100000)
theorem smOk_ok {n : Nat} (h : smOk n = true) : n < sizeLine := Evl.sz_lt (of_decide_eq_true h)
def fApp (i : Nat) (f : Fe) : Env → Out := fun env => match env[i]? with
  | some (some (.lst ms)) => goE env (f env) fun c => (match c with
    | .own m => if smOk ms.length = true then .nx (env.set i (some (.lst (ms ++ [m])))) else .bad
    | .vw _ => .bad)
  | _ => .bad
theorem getElem_lt {α : Type} {l : List α} {i : Nat} {x : α} (h : l[i]? = some x) : i < l.length := (List.getElem?_eq_some_iff.mp h).1
/-- if it runs to its end, the slot is such a list: its address ahead -/
theorem St.lstAt {ms : List M} (h : St K H0 F0 env σ tm H) (e : env[i]? = some (some (.lst ms))) : ∃ a vs, σ[i]? = some (some (.ref a)) ∧ H a = some (.lst vs) := by
  obtain ⟨F, lab, x⟩ := h
  obtain ⟨a, vs, h1, h2, _⟩ := x.slotLst e
  exact ⟨a, vs, h1, h2⟩
theorem ss_app {te : TE} {f : Fe} (h1 : SE K W te f) : SS K W (tDrop (tBM K "list" rAppend (tVar i) (tCons te tNil))) (fApp i f) := by
  intro H0 F0 D env σ tm H hw h k
  unfold fApp at k
  split at k
  · rename_i ms e
    obtain ⟨a, vs, h2, h3⟩ := h.lstAt e
    refine ⟨.ref a, h2, .inl ⟨rfl, _, SqL.of h3⟩, ?_⟩
    refine h1 H0 F0 env σ tm H _ h (goE_good k h fun c k1 v H1 hs => ?_)
    cases c with
    | own m =>
      simp only at k1
      split at k1
      · rename_i q
        obtain ⟨a', vs', g1, g2, g3, g4⟩ := hs.append hw e
        rw [h2] at g1; cases g1
        exact ⟨a, vs', v, rfl, rfl, g2, by rw [g3]; exact smOk_ok q, k1 σ _ g4⟩
      · exact k1.elim
    | vw m => exact k1.elim
  · exact k.elim
/-- x[e2] = e1 -/
def fSetAt (i : Nat) (fv fi : Fe) : Env → Out := fun env => goE env (fv env) fun c => match env[i]? with
  | some (some (.lst ms)) => goE env (fi env) fun n => (match c, n.toD with
    | .own m, .int k => (match ixN ms.length k with
      | some j => .nx (env.set i (some (.lst (ms.set j m))))
      | none => .bad)
    | _, _ => .bad)
  | _ => .bad
theorem ss_setAt {te ti : TE} {f g : Fe} (h1 : SE K W te f) (h2 : SE K W ti g) : SS K W (tAsg te (gSub (tVar i) ti rSetL)) (fSetAt i f g) := by
  intro H0 F0 D env σ tm H hw h k
  refine h1 H0 F0 env σ tm H _ h (goE_good k h fun c k1 v H1 hs => ?_)
  split at k1
  · rename_i ms e2
    obtain ⟨a, vs, q1, q2⟩ := hs.drop.lstAt e2
    refine ⟨.ref a, q1, ?_⟩
    refine h2 H0 F0 env σ _ H1 _ hs (GoodR.more (goE_good k1 h fun n k2 w H2 hs2 => ?_))
    have r := hs2.last
    split at k2
    · rename_i c' n' m kk e1
      rw [e1] at r
      split at k2
      · rename_i j ej
        obtain ⟨a', vs', g1, g2, g3, g4⟩ := hs2.drop.setAt (k := j) hw e2
        rw [q1] at g1; cases g1
        exact ⟨a, vs', kk, j, rfl, rep_int r, g2, by rw [g3]; exact ej, k2 σ _ g4⟩
      · exact k2.elim
    · exact k2.elim
  · exact k1.elim
/-- x += e of ints -/
def fAug (i : Nat) (g : Int → Int → Int) (f : Fe) : Env → Out := fun env => match env[i]? with
  | some (some m0) => goE env (f env) fun c => (match m0.toD, c.toD with
    | .int a, .int b => .nx (env.set i (some (.im (.int (g a b)))))
    | _, _ => .bad)
  | _ => .bad
theorem ss_aug {te : TE} {f : Fe} {g : Int → Int → Int} (h1 : SE K W te f) : SS K W (tAug i te (ipI g)) (fAug i g f) := by
  intro H0 F0 D env σ tm H hw h k
  unfold fAug at k
  split at k
  · rename_i m0 e
    obtain ⟨v0, q1, q2⟩ := h.var e
    refine ⟨v0, q1, ?_⟩
    refine h1 H0 F0 env σ tm H _ h (goE_good k h fun c k1 v H1 hs => ?_)
    split at k1
    · rename_i a b ea eb
      have r1 := q2.last
      have r2 := hs.last
      rw [eb] at r2
      have : (view m0).toD = m0.toD := by unfold Cl.toD; rw [view_m]
      rw [this, ea] at r1
      exact ⟨a, b, rep_int r1, rep_int r2, k1 _ H1 ((hs.drop.push_int _).assign i)⟩
    · exact k1.elim
  · exact k.elim
/-! ### targets -/
def leaf : M → Bool
  | .im _ => true
  | .bo _ => true
  | _ => false
/-- a value at hand goes to a target -/
def SG (K : PySem.W.Frag) (tg : TG) (g : M → Env → Option Env) : Prop := ∀ (H0 F0 : Hp) (env env' : Env) (σ : L2.St) (tm : Tm) (m : M) (v : V) (H : Hp) (Q : L2.St → Hp → Prop), St K H0 F0 env σ (tm ++ [(.own m, v)]) H → g m env = some env' →
  (∀ σ' H', St K H0 F0 env' σ' tm H' → Q σ' H') → tg v σ H Q
def gNm (i : Nat) : M → Env → Option Env := fun m env => some (env.set i (some m))
theorem sg_name : SG K (gName i) (gNm i) := fun H0 F0 env env' σ tm m v H Q h e k => by
  cases e
  exact k _ H (h.assign i)
/-- leaves stand wherever they are put -/
theorem RM.leaf {l l' : Option Lb} (r : RM K H0 F H lab l m v) (h : leaf m = true) : RM K H0 F H lab l' m v := by
  cases r with
  | im r => exact .im r
  | bo r => exact .bo r
  | _ => exact nomatch h
def Rows (K : PySem.W.Frag) (H0 F0 : Hp) (env : Env) (σ : L2.St) (tm : Tm) (ms : List M) (vs : List V) (H : Hp) : Prop :=
  ∃ F lab, Fra K H0 F0 env σ tm H F lab ∧ RMs K H0 F H lab none 0 ms vs
/-- several leaves at hand go to several targets -/
def SGs (K : PySem.W.Frag) (tg : TGs) (g : List M → Env → Option Env) : Prop := ∀ (H0 F0 : Hp) (env env' : Env) (σ : L2.St) (tm : Tm) (ms : List M) (vs : List V) (H : Hp) (Q : L2.St → Hp → Prop), ms.all leaf = true → Rows K H0 F0 env σ tm ms vs H → g ms env = some env' →
  (∀ σ' H', St K H0 F0 env' σ' tm H' → Q σ' H') → tg vs σ H Q
def gNls : List M → Env → Option Env := fun ms env => match ms with
  | [] => some env
  | _ => none
def gCns (i : Nat) (g : List M → Env → Option Env) : List M → Env → Option Env := fun ms env => match ms with
  | m :: ms => g ms (env.set i (some m))
  | [] => none
theorem sgs_nil : SGs K gNil gNls := fun H0 F0 env env' σ tm ms vs H Q hl h e k => by
  obtain ⟨F, lab, x, r⟩ := h
  cases ms with
  | nil => cases e; cases r; exact ⟨rfl, k σ H ⟨F, lab, x⟩⟩
  | cons m ms => exact nomatch e
theorem sgs_cons {u : TGs} {g : List M → Env → Option Env} (h2 : SGs K u g) : SGs K (gCons (gName i) u) (gCns i g) := fun H0 F0 env env' σ tm ms vs H Q hl h e k => by
  obtain ⟨F, lab, x, r⟩ := h
  cases ms with
  | nil => exact nomatch e
  | cons m ms =>
    rw [List.all_cons, Bool.and_eq_true] at hl
    cases r with
    | cons a r =>
      rename_i v vs
      refine ⟨v, vs, rfl, ?_⟩
      refine h2 H0 F0 (env.set i (some m)) env' (σ.set i (some v)) tm ms vs H Q hl.2 ⟨F, lab, { x with len := by simp [x.len], slot := fun n m' e' => ?_ }, ?_⟩ e k
      · rw [List.getElem?_set] at e'
        split at e'
        · rename_i q; subst q
          split at e'
          · rename_i q2
            cases e'
            exact ⟨v, by rw [List.getElem?_set_self (by rw [← x.len]; exact q2)], RM.leaf a hl.1⟩
          · exact nomatch e'
        · rename_i q
          obtain ⟨w, w1, w2⟩ := x.slot n m' e'
          exact ⟨w, by rw [List.getElem?_set_ne q]; exact w1, w2⟩
      · have : ∀ {ms : List M} {vs : List V} {n n' : Nat}, ms.all leaf = true → RMs K H0 F H lab none n ms vs → RMs K H0 F H lab none n' ms vs := by
          intro ms
          induction ms with
          | nil => intro vs n n' _ r; cases r; exact .nil
          | cons m ms ih =>
            intro vs n n' hl r
            rw [List.all_cons, Bool.and_eq_true] at hl
            cases r with
            | cons a r => exact .cons (RM.leaf a hl.1) (ih hl.2 r)
        exact this hl.2 r
/-- (a, b, ..) = a tuple of leaves -/
def gTp (n : Nat) (g : List M → Env → Option Env) : M → Env → Option Env := fun m env => match m.items with
  | some (false, ms) => if ms.length = n ∧ ms.all leaf = true then g ms env else none
  | _ => none
theorem sg_tup {n : Nat} {t : TGs} {g : List M → Env → Option Env} (h1 : SGs K t g) : SG K (gTup K n t) (gTp n g) := fun H0 F0 env env' σ tm m v H Q h e k => by
  unfold gTp at e
  split at e
  · rename_i ms e1
    split at e
    · rename_i q
      obtain ⟨F, lab, x⟩ := h
      obtain ⟨a, vs, rfl, _, h2, h3⟩ := items_of x.fe x.e0 (get_last_temp x).any e1
      refine ⟨a, vs, rfl, h2 rfl, by rw [← h3.len]; exact q.1, ?_⟩
      refine h1 H0 F0 env env' σ tm ms vs H Q q.2 ⟨F, lab, { x with tmp := fun j c v e => x.tmp j c v (by
        have := (List.getElem?_eq_some_iff.mp e).1
        rw [List.getElem?_append_left this]; exact e) }, h3⟩ e k
    · exact nomatch e
  · exact nomatch e
end
end NW
set_option Elab.async false
set_option linter.all false
set_option maxRecDepth 100000
set_option maxHeartbeats 2000000
namespace NW
open PySem PySem.Spec PyProof.Rows L2
open Evl (Ex)

section
variable {K : PySem.W.Frag} {H0 H0' F H : Hp} {lab : Lab}
/-! a tree without borrowed parts does not lean on the entry's heap -/
mutual
theorem RM.rebase : ∀ {l : Option Lb} {m : M} {v : V}, RM K H0 F H lab l m v → m.pure = true → RM K H0' F H lab l m v
  | _, _, _, .im r, _ => .im r
  | _, _, _, .bo r, p => by simp [M.pure] at p
  | _, _, _, .lst h w r, p => by rw [M.pure] at p; exact .lst h w (RMs.rebase r p)
  | _, _, _, .tup h w r, p => by rw [M.pure] at p; exact .tup h w (RMs.rebase r p)
  | _, _, _, .obj h w r, p => by rw [M.pure] at p; exact .obj h w (RMf.rebase r p)
  | _, _, _, .dK h w r, p => by rw [M.pure] at p; exact .dK h w (RMk.rebase r p)
  | _, _, _, .dT h w r, p => by rw [M.pure] at p; exact .dT h w (RMt.rebase r p)
theorem RMs.rebase : ∀ {l : Option Lb} {n : Nat} {ms : List M} {vs : List V}, RMs K H0 F H lab l n ms vs → M.pures ms = true → RMs K H0' F H lab l n ms vs
  | _, _, _, _, .nil, _ => .nil
  | _, _, _, _, .cons h r, p => by rw [M.pures, Bool.and_eq_true] at p; exact .cons (RM.rebase h p.1) (RMs.rebase r p.2)
theorem RMf.rebase : ∀ {l : Option Lb} {n : Nat} {ms : List (Str × M)} {vs : List (Str × V)}, RMf K H0 F H lab l n ms vs → M.puref ms = true → RMf K H0' F H lab l n ms vs
  | _, _, _, _, .nil, _ => .nil
  | _, _, _, _, .cons h r, p => by rw [M.puref, Bool.and_eq_true] at p; exact .cons (RM.rebase h p.1) (RMf.rebase r p.2)
theorem RMk.rebase : ∀ {l : Option Lb} {n : Nat} {ms : List (Key × M)} {vs : List (Key × V)}, RMk K H0 F H lab l n ms vs → M.purek ms = true → RMk K H0' F H lab l n ms vs
  | _, _, _, _, .nil, _ => .nil
  | _, _, _, _, .cons h r, p => by rw [M.purek, Bool.and_eq_true] at p; exact .cons (RM.rebase h p.1) (RMk.rebase r p.2)
theorem RMt.rebase : ∀ {l : Option Lb} {n : Nat} {ms : List (List Key × M)} {vs : List (List Key × V)}, RMt K H0 F H lab l n ms vs → M.puret ms = true → RMt K H0' F H lab l n ms vs
  | _, _, _, _, .nil, _ => .nil
  | _, _, _, _, .cons h r, p => by rw [M.puret, Bool.and_eq_true] at p; exact .cons (RM.rebase h p.1) (RMt.rebase r p.2)
end
end
/-! ### what is walked -/
structure Walks (K : PySem.W.Frag) (H0 F0 : Hp) (tm : Tm) (J : It) (ms : List M) (t : Cl × V) : Prop where
  go : ∀ (env : Env) (σ : L2.St) (H : Hp) (i : Nat), NW.St K H0 F0 env σ (tm ++ [t]) H → i < ms.length → J.go i H ∧ ∀ x H', J.yld i H x H' → ∃ m, ms[i]? = some m ∧ NW.St K H0 F0 env σ (tm ++ [t] ++ [(view m, x)]) H'
  stop : ∀ (env : Env) (σ : L2.St) (H : Hp) (i : Nat), NW.St K H0 F0 env σ (tm ++ [t]) H → ms.length ≤ i → J.stop i H
def SI (K : PySem.W.Frag) (W : WX) (wi : TI) (fi : Env → R (List M)) : Prop := ∀ (H0 F0 : Hp) (env : Env) (σ : L2.St) (tm : Tm) (H : Hp) (Rr : It → Hp → Prop), NW.St K H0 F0 env σ tm H →
  GoodR K W H0 F0 env σ tm (fi env) (fun ms => ∀ (J : It) (m : M) (v : V) (H' : Hp), Walks K H0 F0 tm J ms (.own m, v) → NW.St K H0 F0 env σ (tm ++ [(.own m, v)]) H' → Rr J H') → wi σ H Rr
structure PIF (X : Cx) (W : WX) (tg iter : Expr) (wi : TI) (fi : Env → R (List M)) : Prop where
  p : PI X tg iter wi
  s : SI X.K W wi fi
/-- a list or a tuple, walked -/
def iSeq (K : PySem.W.Frag) (tl : TE) : TI := fun σ H R => tl σ H fun x H1 => (∃ a, x = .ref a ∧ (∃ xs, SqL K H1 a xs) ∧ R (Itl K a) H1) ∨ ∃ a, x = .ref a ∧ (∃ xs, SqT K H1 a xs) ∧ R (Itt K a) H1
theorem pi_seq {X : Cx} {tg l : Expr} {tl : TE} (hl : PE X l tl) : PI X tg l (iSeq X.K tl) := by
  refine ⟨fun pins s σ H R I h => ?_⟩
  refine thn (hl.run pins s σ H _ I h) fun v s1 ⟨x, H1, I1, r1, q1⟩ => ?_
  rcases q1 with q1 | q1
  · obtain ⟨a, e, ⟨xs, hq⟩, q⟩ := q1
    subst e
    cases r1
    obtain ⟨its, rv, p, hz⟩ := I1.list hq
    refine wpAny_pyIter_list p.isList ?_
    refine ⟨s1.heap.objs.size, [s1.heap.objs.size], _, _, H1, rfl, I1.kept (t' := s1.toks) fun b o e => Heap.get?_push_of_some _ e, turn_list a _, ⟨_, Heap.get?_push_size _ rfl, rfl, rfl⟩, fun b hb => ?_, q⟩
    have e : b = s1.heap.objs.size := by simpa using hb
    subst e
    exact I1.fpOk (Nat.le_refl _) (I1.hok.fresh (Nat.le_refl _))
  · obtain ⟨a, e, ⟨xs, hq⟩, q⟩ := q1
    subst e
    cases r1
    obtain ⟨its, rv, p, hz⟩ := I1.tuple hq
    refine wpAny_pyIter_tuple (show s1.heap.IsTuple a its.toArray from p) ?_
    refine ⟨s1.heap.objs.size, [s1.heap.objs.size], _, _, H1, rfl, I1.kept (t' := s1.toks) fun b o e => Heap.get?_push_of_some _ e, turn_tuple a _, ⟨_, Heap.get?_push_size _ rfl, rfl, rfl⟩, fun b hb => ?_, q⟩
    have e : b = s1.heap.objs.size := by simpa using hb
    subst e
    exact I1.fpOk (Nat.le_refl _) (I1.hok.fresh (Nat.le_refl _))
section
variable {K : PySem.W.Frag} {W : WX} {H0 F0 F H : Hp} {env : Env} {σ : L2.St} {tm ts : Tm} {lab : Lab} {c c' : Cl} {v v' : V} {m : M} {D : Ends} {i : Nat}
theorem rc_view {l : Option Lb} {j : Nat} (r : RM K H0 F H lab l m v) : RC K H0 F H lab j (view m) v := by
  have w3 := r.any
  rcases view_kind m with ⟨d, q⟩ | ⟨d, q⟩ | ⟨m', q⟩
  · have : m = .im d := by rw [← view_m m, q]; rfl
    subst this
    cases w3 with | im r => exact .im r
  · have : m = .bo d := by rw [← view_m m, q]; rfl
    subst this
    cases w3 with | bo r => exact .bo r
  · have : m = m' := by rw [← view_m m, q]; rfl
    subst this
    rw [q]; exact w3
/-- the items of the last temp, any of them on top of it -/
theorem _root_.NW.St.itemsK {k : Bool} {ms : List M} (h : NW.St K H0 F0 env σ (tm ++ [(c, v)]) H) (e : c.m.items = some (k, ms)) :
    ∃ a vs, v = .ref a ∧ (k = true → SqL K H a vs) ∧ (k = false → SqT K H a vs) ∧ vs.length = ms.length ∧
      ∀ (j : Nat) (m : M), ms[j]? = some m → ∃ w, vs[j]? = some w ∧ NW.St K H0 F0 env σ (tm ++ [(c, v)] ++ [(view m, w)]) H := by
  obtain ⟨F, lab, x⟩ := h
  obtain ⟨a, vs, rfl, h1, h2, h3⟩ := items_of x.fe x.e0 (x.tmp tm.length c v (last_get tm _)).any e
  refine ⟨a, vs, rfl, h1, h2, h3.len.symm, fun j m hj => ?_⟩
  obtain ⟨w, w1, w2⟩ := h3.get hj
  exact ⟨w, w1, F, lab, x.push (rc_view w2)⟩
theorem walks_l {ms : List M} {a : Addr} (e : m.items = some (true, ms)) : Walks K H0 F0 tm (Itl K a) ms (.own m, .ref a) := by
  refine ⟨fun env σ H i hs hi => ?_, fun env σ H i hs hi => ?_⟩
  · obtain ⟨a', vs', ea, q1, _, ql, q4⟩ := hs.itemsK e
    cases ea
    obtain ⟨w, w1, w2⟩ := q4 i ms[i] (List.getElem?_eq_getElem hi)
    refine ⟨⟨vs', w, q1 rfl, w1⟩, fun x H' y => ?_⟩
    obtain ⟨rfl, y2⟩ := y
    have := y2 vs' (q1 rfl)
    rw [w1] at this; cases this
    exact ⟨ms[i], List.getElem?_eq_getElem hi, w2⟩
  · obtain ⟨a', vs', ea, q1, _, ql, q4⟩ := hs.itemsK e
    cases ea
    exact ⟨vs', q1 rfl, by omega⟩
theorem walks_t {ms : List M} {a : Addr} (e : m.items = some (false, ms)) : Walks K H0 F0 tm (Itt K a) ms (.own m, .ref a) := by
  refine ⟨fun env σ H i hs hi => ?_, fun env σ H i hs hi => ?_⟩
  · obtain ⟨a', vs', ea, _, q1, ql, q4⟩ := hs.itemsK e
    cases ea
    obtain ⟨w, w1, w2⟩ := q4 i ms[i] (List.getElem?_eq_getElem hi)
    refine ⟨⟨vs', w, q1 rfl, w1⟩, fun x H' y => ?_⟩
    obtain ⟨rfl, y2⟩ := y
    have := y2 vs' (q1 rfl)
    rw [w1] at this; cases this
    exact ⟨ms[i], List.getElem?_eq_getElem hi, w2⟩
  · obtain ⟨a', vs', ea, _, q1, ql, q4⟩ := hs.itemsK e
    cases ea
    exact ⟨vs', q1 rfl, by omega⟩
def itemsE (c : Cl) : R (List M) := match c with
  | .own m => (match m.items with
    | some (_, ms) => .ok ms
    | none => .bad)
  | .vw _ => .bad
def iSq (f : Fe) : Env → R (List M) := fun env => (f env).bind itemsE
theorem si_seq {tl : TE} {f : Fe} (h1 : SE K W tl f) : SI K W (iSeq K tl) (iSq f) := by
  intro H0 F0 env σ tm H Rr h k
  refine h1 H0 F0 env σ tm H _ h (k.bind.imp fun c _ k1 v H1 hs => ?_)
  cases c with
  | vw m => exact k1.elim
  | own m =>
    unfold itemsE at k1
    simp only at k1
    split at k1
    · rename_i kd ms e
      obtain ⟨a, vs, rfl, h2, h3, hl, h4⟩ := hs.itemsK e
      cases kd with
      | true => exact .inl ⟨a, rfl, ⟨vs, h2 rfl⟩, k1 (Itl K a) m (.ref a) H1 (walks_l e) hs⟩
      | false => exact .inr ⟨a, rfl, ⟨vs, h3 rfl⟩, k1 (Itt K a) m (.ref a) H1 (walks_t e) hs⟩
    · exact k1.elim
/-! range -/
def rgItems (lo : Int) (n : Nat) : List M := (List.range n).map fun (i : Nat) => .im (.int (lo + (i : Int)))
def smI (i : Int) : Bool := decide (-(2 ^ 62) ≤ i ∧ i < 2 ^ 62)
theorem smI_ok {i : Int} (h : smI i = true) : -(2 ^ 62) ≤ i ∧ i < 2 ^ 62 := of_decide_eq_true h
theorem walks_r {lo : Int} {n : Nat} : Walks K H0 F0 tm (Itr lo n) (rgItems lo n) (.own (.im .non), .non) := by
  have hl : (rgItems lo n).length = n := by unfold rgItems; simp
  refine ⟨fun env σ H i hs hi => ⟨by rw [hl] at hi; exact hi, fun x H' y => ?_⟩, fun env σ H i hs hi => by rw [hl] at hi; exact hi⟩
  obtain ⟨rfl, rfl⟩ := y
  rw [hl] at hi
  exact ⟨.im (.int (lo + (i : Int))), by unfold rgItems; simp [hi], hs.push_int _⟩
def iR1 (f : Fe) : Env → R (List M) := fun env => (f env).bind fun c => match c.toD with
  | .int j => if smI j = true then .ok (rgItems 0 j.toNat) else .bad
  | _ => .bad
theorem si_r1 {te : TE} {f : Fe} (h1 : SE K W te f) : SI K W (iRng1 (tCons te tNil)) (iR1 f) := by
  intro H0 F0 env σ tm H Rr h k
  refine h1 H0 F0 env σ tm H _ h (k.bind.imp fun c _ k1 v H1 hs => ?_)
  have r := hs.last
  split at k1
  · rename_i j e
    rw [e] at r
    split at k1
    · rename_i q
      exact ⟨j, by rw [rep_int r], (smI_ok q).1, (smI_ok q).2, k1 _ _ _ H1 walks_r hs.drop.push_non⟩
    · exact k1.elim
  · exact k1.elim
def iR2 (f g : Fe) : Env → R (List M) := fun env => (f env).bind fun c => (g env).bind fun d => match c.toD, d.toD with
  | .int i, .int j => if (smI i && smI j) = true then .ok (rgItems i (j - i).toNat) else .bad
  | _, _ => .bad
theorem si_r2 {te tf : TE} {f g : Fe} (h1 : SE K W te f) (h2 : SE K W tf g) : SI K W (iRng2 (tCons te (tCons tf tNil))) (iR2 f g) := by
  intro H0 F0 env σ tm H Rr h k
  refine h1 H0 F0 env σ tm H _ h (k.bind.imp fun c _ k1 v H1 hs => ?_)
  refine h2 H0 F0 env σ _ H1 _ hs (k1.bind.more.imp fun d _ k2 w H2 hs2 => ?_)
  obtain ⟨r1, r2, h0⟩ := hs2.two
  split at k2
  · rename_i i j e1 e2
    rw [e1] at r1; rw [e2] at r2
    split at k2
    · rename_i q
      rw [Bool.and_eq_true] at q
      exact ⟨i, j, by rw [rep_int r1, rep_int r2], ⟨(smI_ok q.1).1, (smI_ok q.1).2, (smI_ok q.2).1, (smI_ok q.2).2⟩, k2 _ _ _ H2 walks_r h0.push_non⟩
    · exact k2.elim
  · exact k2.elim
/-! ### loops -/
def loop (g : M → Env → Option Env) (fb : Env → Out) : List M → Env → Out
  | [], e => .nx e
  | m :: ms, e => match (if leaf m = true then g m e else none) with
    | some e1 => (match fb e1 with
      | .nx e2 => loop g fb ms e2
      | .ct e2 => loop g fb ms e2
      | .bk e2 => .nx e2
      | .rt m => .rt m
      | .ex e2 x fs => .ex e2 x fs
      | .bad => .bad)
    | none => .bad
def fFor (fi : Env → R (List M)) (g : M → Env → Option Env) (fb : Env → Out) : Env → Out := fun env => goE env (fi env) fun ms => loop g fb ms env
theorem ss_for {wi : TI} {fi : Env → R (List M)} {tg : TG} {g : M → Env → Option Env} {tb : TS} {fb : Env → Out} (h1 : SI K W wi fi) (h2 : SG K tg g) (h3 : SS K W tb fb) : SS K W (tFor wi tg tb) (fFor fi g fb) := by
  intro H0 F0 D env σ tm H hw h k
  refine h1 H0 F0 env σ tm H _ h (goE_good k h fun ms k1 J m v H1 hwk hs => ?_)
  have hw1 : Owns (tm ++ [((.own m : Cl), v)]) := hw.push
  refine ⟨fun i n σ H => n + i = ms.length ∧ ∃ env, NW.St K H0 F0 env σ (tm ++ [(.own m, v)]) H ∧ GoodS K W H0 F0 D tm (loop g fb (ms.drop i) env), ⟨ms.length, rfl, env, hs, k1⟩, ?_⟩
  rintro i n σ H ⟨hn, env, hs, k⟩
  by_cases hi : i < ms.length
  · right
    obtain ⟨g1, g2⟩ := hwk.go env σ H i hs hi
    refine ⟨g1, fun σ' H' => ∃ env, NW.St K H0 F0 env σ' (tm ++ [(.own m, v)]) H' ∧ GoodS K W H0 F0 D tm (loop g fb (ms.drop (i + 1)) env), ?_, ?_⟩
    · rintro σ' H' ⟨env, a, b⟩
      exact ⟨n - 1, by omega, by omega, env, a, b⟩
    · intro x H' hy
      obtain ⟨m', e1, hs'⟩ := g2 x H' hy
      have ed : ms.drop i = m' :: ms.drop (i + 1) := by
        rw [List.getElem?_eq_getElem hi] at e1
        have := Option.some.inj e1
        rw [← this]
        exact List.drop_eq_getElem_cons hi
      rw [ed, loop] at k
      split at k
      · rename_i e2 eg
        split at eg
        · rename_i lf
          have hv : view m' = .own m' := by
            cases m' with
            | im d => rfl
            | bo d => rfl
            | _ => exact nomatch lf
          rw [hv] at hs'
          refine h2 H0 F0 env e2 σ (tm ++ [(.own m, v)]) m' x H' _ hs' eg fun σ2 H2 hs2 => ?_
          refine h3 H0 F0 _ e2 σ2 (tm ++ [(.own m, v)]) H2 hw1 hs2 ?_
          cases ef : fb e2 with
          | nx e3 => rw [ef] at k; exact fun σ' H' hs' => ⟨e3, hs', k⟩
          | ct e3 => rw [ef] at k; exact fun σ' H' hs' => ⟨e3, hs', k⟩
          | bk e3 => rw [ef] at k; exact fun σ' H' hs' => k σ' H' hs'.drop
          | rt m => rw [ef] at k; exact k
          | ex e3 x fs => rw [ef] at k; exact fun cls d σ' H' hs' => k cls d σ' H' hs'.drop
          | bad => rw [ef] at k; exact k.elim
        · exact nomatch eg
      · exact k.elim
  · left
    have ed : ms.drop i = [] := List.drop_eq_nil_of_le (by omega)
    rw [ed] at k
    exact ⟨hwk.stop env σ H i hs (by omega), k σ H hs.drop⟩
/-! ### while, to a number of turns -/
def fWhile (p : Env → R Bool) (fb : Env → Out) : Nat → Env → Out
  | 0, _ => .bad
  | n + 1, e => goE e (p e) fun b => if b = true then (match fb e with
    | .nx e2 => fWhile p fb n e2
    | .ct e2 => fWhile p fb n e2
    | .bk e2 => .nx e2
    | .rt m => .rt m
    | .ex e2 x fs => .ex e2 x fs
    | .bad => .bad) else .nx e
theorem ss_while {tt : TT} {p : Env → R Bool} {tb : TS} {fb : Env → Out} (fuel : Env → Nat) (h1 : SB K W tt p) (h3 : SS K W tb fb) : SS K W (tWhile tt tb) (fun e => fWhile p fb (fuel e) e) := by
  intro H0 F0 D env σ tm H hw h k
  refine ⟨fun n σ H => ∃ env, NW.St K H0 F0 env σ tm H ∧ GoodS K W H0 F0 D tm (fWhile p fb n env), ⟨_, env, h, k⟩, ?_⟩
  rintro n σ H ⟨env, hs, k⟩
  cases n with
  | zero => exact k.elim
  | succ n =>
    refine h1 H0 F0 env σ tm H _ hs (goE_good k hs fun b k1 H1 hs1 => ?_)
    cases b with
    | false => rw [if_neg Bool.false_ne_true] at k1 ⊢; exact k1 σ H1 hs1
    | true =>
      rw [if_pos rfl] at k1 ⊢
      refine ⟨fun σ' H' => ∃ env, NW.St K H0 F0 env σ' tm H' ∧ GoodS K W H0 F0 D tm (fWhile p fb n env), fun σ' H' q => ⟨n, Nat.lt_succ_self _, q⟩, ?_⟩
      refine h3 H0 F0 _ env σ tm H1 hw hs1 ?_
      cases ef : fb env with
      | nx e3 => rw [ef] at k1; exact fun σ' H' hs' => ⟨e3, hs', k1⟩
      | ct e3 => rw [ef] at k1; exact fun σ' H' hs' => ⟨e3, hs', k1⟩
      | bk e3 => rw [ef] at k1; exact k1
      | rt m => rw [ef] at k1; exact k1
      | ex e3 x fs => rw [ef] at k1; exact k1
      | bad => rw [ef] at k1; exact k1.elim
/-! ### defs -/
/-- the arguments as data: shared ones stand in F, borrowed ones in H -/
inductive Args (K : PySem.W.Frag) (F H : Hp) : List Bool → List V → List NW.D → Prop
  | nil : Args K F H [] [] []
  | shr {bs : List Bool} {v : V} {vs : List V} {d : NW.D} {ds : List NW.D} : Rep K F v d → Args K F H bs vs ds → Args K F H (true :: bs) (v :: vs) (d :: ds)
  | bor {bs : List Bool} {v : V} {vs : List V} {d : NW.D} {ds : List NW.D} : Rep K H v d → Args K F H bs vs ds → Args K F H (false :: bs) (v :: vs) (d :: ds)
/-- an exception that a body lets out -/
def RetX (K : PySem.W.Frag) (H0 F0 : Hp) (x : Str) (fs : List (Str × NW.D)) (cls : Value) (d : Option Addr) (H : Hp) : Prop := Ex H0 H ∧ ∃ F, Ex F0 F ∧ Ex F H ∧ (∀ a o, F a = some o → F0 a = some o ∨ H0 a = none) ∧ XD K F x fs cls d
/-- a def's promise by a function of its arguments' data -/
def Prom (K : PySem.W.Frag) (bs : List Bool) (fn : List NW.D → R M) : Sp := fun vs H Q E => ∃ ds F, Ex F H ∧ Args K F H bs vs ds ∧ (match fn ds with
  | .ok m => ∀ v H', Ret K H F m v H' → Q v H'
  | .ex x fs => ∀ cls d H', RetX K H F x fs cls d H' → E cls d H'
  | .bad => False)
theorem Args.len {bs : List Bool} {vs : List V} {ds : List NW.D} : Args K F H bs vs ds → vs.length = bs.length ∧ ds.length = bs.length := by
  intro a
  induction a with
  | nil => exact ⟨rfl, rfl⟩
  | shr _ _ ih => simp [ih.1, ih.2]
  | bor _ _ ih => simp [ih.1, ih.2]
def argM : List Bool → List NW.D → Env
  | true :: bs, d :: ds => some (.im d) :: argM bs ds
  | false :: bs, d :: ds => some (.bo d) :: argM bs ds
  | _, _ => []
def startE (n : Nat) (bs : List Bool) (ds : List NW.D) : Env := argM bs ds ++ List.replicate (n - bs.length) none
theorem argM_len : ∀ {bs : List Bool} {ds : List NW.D}, ds.length = bs.length → (argM bs ds).length = bs.length
  | [], [], _ => rfl
  | true :: bs, d :: ds, h => by simp [argM]; exact argM_len (by simpa using h)
  | false :: bs, d :: ds, h => by simp [argM]; exact argM_len (by simpa using h)
theorem args_slot {bs : List Bool} {vs : List V} {ds : List NW.D} (a : Args K F0 H0 bs vs ds) {lab : Lab} : ∀ (i : Nat) (m : M), (argM bs ds)[i]? = some (some m) → ∀ l, ∃ v, vs[i]? = some v ∧ RM K H0 F0 H0 lab l m v := by
  induction a with
  | nil => intro i m h; simp [argM] at h
  | shr r _ ih =>
    intro i m h l
    cases i with
    | zero => simp [argM] at h; subst h; exact ⟨_, rfl, .im r⟩
    | succ i => simp only [argM, List.getElem?_cons_succ] at h ⊢; exact ih i m h l
  | bor r _ ih =>
    intro i m h l
    cases i with
    | zero => simp [argM] at h; subst h; exact ⟨_, rfl, .bo r⟩
    | succ i => simp only [argM, List.getElem?_cons_succ] at h ⊢; exact ih i m h l
theorem st_start {bs : List Bool} {vs : List V} {ds : List NW.D} {N : List Str} (fe : Ex F0 H0) (a : Args K F0 H0 bs vs ds) : NW.St K H0 F0 (startE N.length bs ds) (L2.start N vs) [] H0 := by
  refine ⟨F0, fun _ => none, Fra.mk (Ex.refl _) (Ex.refl _) fe (fun a o h => .inl h) (fun a L h => nomatch h) ?_ (fun i m h => ?_) (fun j c v h => by simp at h)⟩
  · unfold startE L2.start
    simp [argM_len a.len.2, a.len.1]
  · unfold startE at h
    unfold L2.start
    by_cases q : i < (argM bs ds).length
    · rw [List.getElem?_append_left q] at h
      obtain ⟨v, h1, h2⟩ := args_slot a (lab := fun _ => none) i m h (some (false, i, []))
      refine ⟨v, ?_, h2⟩
      rw [List.getElem?_append_left (by rw [argM_len a.len.2] at q; simpa [a.len.1] using q)]
      simp [h1]
    · rw [List.getElem?_append_right (by omega)] at h
      rw [List.getElem?_replicate] at h
      split at h <;> exact nomatch h
/-- how a body ends -/
def endO : Out → R M
  | .nx _ => .ok (.im .non)
  | .rt m => .ok m
  | .ex _ x fs => .ex x fs
  | _ => .bad
section
variable {P : Program} {w : World} {mg : Str → Option Value} {base : Heap}
/-- THE RULE for a def -/
theorem def_ok {x qual : Str} {params : Arguments} {body : List Stmt} {scope : Scope} {f : Addr} {fd : FuncData} {N ps : List Str} {k : Nat} {bs : List Bool} {fn : List NW.D → R M} {fb : Env → Out} (Fu : FunD K x qual params body scope [] [] f fd) (S : FnScope N ps scope) (hbs : bs.length = ps.length)
    (hb : ∀ (cdv : Value) (A : Around) (outer : List PySem.Env) (s : Shared) (H : Hp) (E : XK), Room k (A.deeper (envOfC qual scope s.heap.objs.size f cdv)) →
      ∃ ts, PBF (cxOf (L2.CX P w) P w K mg base N qual scope f cdv A outer s H E) (fun cls d _ H => E cls d H) body ts fb)
    (h : ∀ ds, fn ds ≠ .bad → endO (fb (startE N.length bs ds)) = fn ds) : FnOk P w K mg base (L2.CX P w) (k + 1) f fd ps (Prom K bs fn) := by
  refine Fu.ok S (fun vs H Q E hp => ?_) (fun cdv A outer s H vs Q E hr hp => ?_)
  · obtain ⟨ds, F, _, a, _⟩ := hp
    rw [a.len.1, hbs]
  · obtain ⟨ts, hp1, hs1⟩ := hb cdv A outer s H E hr
    refine ⟨ts, hp1, ?_⟩
    obtain ⟨ds, F, fe, a, q⟩ := hp
    have hst := st_start (N := N) fe a
    refine hs1 H F _ _ _ [] H Owns.nil hst ?_
    have hne : fn ds ≠ .bad := fun e => by rw [e] at q; exact q
    have e := h ds hne
    cases eo : fb (startE N.length bs ds) with
    | nx env => rw [eo] at e; rw [← e] at q; exact fun σ H' hs => q .non H' (hs.push_non.ret rfl)
    | rt m => rw [eo] at e; rw [← e] at q; exact q
    | ex env x fs => rw [eo] at e; rw [← e] at q; exact fun cls d σ H' hs => q cls d H' (by obtain ⟨F, lab, x, y⟩ := hs; exact ⟨x.e0, F, x.f0, x.fe, x.new, y⟩)
    | bk env => rw [eo] at e; exact absurd e.symm hne
    | ct env => rw [eo] at e; exact absurd e.symm hne
    | bad => rw [eo] at e; exact absurd e.symm hne
end
/-- a def that keeps such a promise, ready to be called -/
def Fok (P : Program) (w : World) (K : PySem.W.Frag) (mg : Str → Option Value) (base : Heap) (k : Nat) (f : Addr) (ps : List Str) (bs : List Bool) (fn : List NW.D → R M) : Prop :=
  ∃ fd, FnOk P w K mg base (L2.CX P w) k f fd ps (Prom K bs fn) ∧ Binds K fd ps [] ∧ PySem.W.keepIn K (.ref f) = true
/-! ### calls -/
/-- an argument handed over: shared (a tree of its own is frozen), or borrowed -/
def arg1 (b : Bool) (c : Cl) : Option NW.D := match b, c with
  | true, .own m => if m.pure = true then some m.toD else none
  | true, .vw _ => none
  | false, c => some c.toD
def argD : List Bool → List Cl → Option (List NW.D)
  | [], [] => some []
  | b :: bs, c :: cs => (match arg1 b c, argD bs cs with
    | some d, some ds => some (d :: ds)
    | _, _ => none)
  | _, _ => none
def gCall (bs : List Bool) (fn : List NW.D → R M) (cs : List Cl) : R Cl := match argD bs cs with
  | some ds => (match fn ds with
    | .ok m => .ok (.own m)
    | .ex x fs => .ex x fs
    | .bad => .bad)
  | none => .bad
theorem args_frz : ∀ {bs : List Bool} {cs : List Cl} {vs : List V} {ds : List NW.D} {tm : Tm}, argD bs cs = some ds → vs.length = cs.length → NW.St K H0 F0 env σ (tm ++ cs.zip vs) H →
    ∃ F lab, Fra K H0 F0 env σ tm H F lab ∧ Args K F H bs vs ds := by
  intro bs
  induction bs with
  | nil =>
    intro cs vs ds tm e hl h
    cases cs with
    | nil =>
      cases e
      cases vs with
      | nil => obtain ⟨F, lab, x⟩ := h; exact ⟨F, lab, by simpa using x, .nil⟩
      | cons v vs => simp at hl
    | cons c cs => exact nomatch e
  | cons b bs ih =>
    intro cs vs ds tm e hl h
    cases cs with
    | nil => exact nomatch e
    | cons c cs =>
      cases vs with
      | nil => simp at hl
      | cons v vs =>
        unfold argD at e
        split at e
        · rename_i d ds' e1 e2
          cases e
          simp only [List.zip_cons_cons] at h
          cases b with
          | false =>
            cases e1
            have h' : NW.St K H0 F0 env σ ((tm ++ [(c, v)]) ++ cs.zip vs) H := by simpa using h
            obtain ⟨F, lab, x, a⟩ := ih e2 (by simpa using hl) h'
            refine ⟨F, lab, { x with tmp := fun j c v e => x.tmp j c v (by
              have := (List.getElem?_eq_some_iff.mp e).1
              rw [List.getElem?_append_left this]; exact e) }, .bor ?_ a⟩
            exact (x.tmp tm.length c v (last_get tm _)).data x.e0 x.fe
          | true =>
            cases c with
            | vw m => exact nomatch e1
            | own m =>
              unfold arg1 at e1
              simp only at e1
              split at e1
              · rename_i p
                cases e1
                have h2 := h.freezeT p
                have h' : NW.St K H0 F0 env σ ((tm ++ [((.own (.im m.toD) : Cl), v)]) ++ cs.zip vs) H := by simpa using h2
                obtain ⟨F, lab, x, a⟩ := ih e2 (by simpa using hl) h'
                refine ⟨F, lab, { x with tmp := fun j c v e => x.tmp j c v (by
                  have := (List.getElem?_eq_some_iff.mp e).1
                  rw [List.getElem?_append_left this]; exact e) }, .shr ?_ a⟩
                have r := x.tmp tm.length _ v (last_get tm _)
                cases r with
                | im r => exact r
              · exact nomatch e1
        · exact nomatch e
/-- behind a call: what it hands back is a temp of ours -/
theorem Fra.back (x : Fra K H0 F0 env σ tm H F lab) {H' : Hp} (r : Ret K H F m v H') : NW.St K H0 F0 env σ (tm ++ [(.own m, v)]) H' := by
  obtain ⟨p, e, F', lab', f1, f2, f3, f4, f5⟩ := r
  let g : Bool → Nat → Option (Bool × Nat × List Nat) := fun b i => if b = false ∧ i = 0 then some (true, tm.length, []) else none
  let lb : Lab := fun a => match lab a with
    | some L => some L
    | none => NW.relab g lab' a
  have l1 : ∀ a L, lab a = some L → lb a = some L := fun a L h => by show (match lab a with | some L => some L | none => NW.relab g lab' a) = some L; rw [h]
  have l2 : ∀ a L, NW.relab g lab' a = some L → lb a = some L := fun a L h => by
    show (match lab a with | some L => some L | none => NW.relab g lab' a) = some L
    cases e1 : lab a with
    | none => exact h
    | some L2 =>
      obtain ⟨L', h'⟩ := relab_some h
      obtain ⟨_, q, _⟩ := f4 a L' h'
      obtain ⟨_, _, o, q2⟩ := x.own a L2 e1
      rw [q] at q2; exact nomatch q2
  have fr : Fra K H0 F0 env σ tm H' F' lb := by
    refine Fra.mk (x.e0.trans e) (x.f0.trans f1) f2 (fun a o h => ?_) (fun a L h => ?_) x.len (fun i m h => ?_) (fun j c w h => ?_)
    · rcases f3 a o h with h | h
      · exact x.new a o h
      · right
        cases e1 : H0 a with
        | none => rfl
        | some o => have := x.e0 a o e1; rw [h] at this; exact nomatch this
    · have h' : (match lab a with | some L => some L | none => NW.relab g lab' a) = some L := h
      cases e1 : lab a with
      | some L2 =>
        obtain ⟨q1, q2, o, q3⟩ := x.own a L2 e1
        refine ⟨?_, q2, o, e a o q3⟩
        cases e2 : F' a with
        | none => rfl
        | some o2 =>
          rcases f3 a o2 e2 with h | h
          · rw [q1] at h; exact nomatch h
          · rw [q3] at h; exact nomatch h
      | none =>
        rw [e1] at h'
        obtain ⟨L', h2⟩ := relab_some h'
        obtain ⟨q1, q2, q3⟩ := f4 a L' h2
        refine ⟨q1, ?_, q3⟩
        cases e2 : H0 a with
        | none => rfl
        | some o => have := x.e0 a o e2; rw [q2] at this; exact nomatch this
    · obtain ⟨w, w1, w2⟩ := x.slot i m h
      exact ⟨w, w1, w2.keep f1 (fun a o _ h => e a o h) (fun a l L _ h _ => l1 a L h)⟩
    · have r := x.tmp j c w h
      cases c with
      | own m => exact RM.keep r f1 (fun a o _ h => e a o h) (fun a l L _ h _ => l1 a L h)
      | vw m => exact RM.keep r f1 (fun a o _ h => e a o h) (fun a l L _ h _ => l1 a L h)
  refine ⟨F', lb, fr.push ?_⟩
  have r1 : RM K H F' H' (NW.relab g lab') (some (true, tm.length, [])) m v := RM.relab f5 (by simp [g])
  have r2 : RM K H F' H' lb (some (true, tm.length, [])) m v := r1.keep (fun _ _ h => h) (fun _ _ _ h => h) (fun a l L _ h _ => l2 a L h)
  exact r2.rebase p
theorem se_call {bs : List Bool} {fn : List NW.D → R M} {ta : TA} {f : Env → R (List Cl)} (h1 : SA K W ta f) : SE K W (tCallS (Prom K bs fn) (WE W) ta) (fCB (gCall bs fn) f) := by
  intro H0 F0 env σ tm H Q h k
  refine h1 H0 F0 env σ tm H _ h (k.bind.imp fun cs _ k1 vs H1 hl hs => ?_)
  unfold gCall at k1
  split at k1
  · rename_i ds e
    obtain ⟨F, lab, x, a⟩ := args_frz e hl hs
    refine ⟨ds, F, x.fe, a, ?_⟩
    cases ef : fn ds with
    | ok m => rw [ef] at k1; exact fun v H' r => k1 v H' (x.back r)
    | ex y fs => rw [ef] at k1; exact fun cls d H' ⟨e2, F', f1, f2, f3, y⟩ => k1 cls d H' ⟨F', lab, x.extF e2 f1 f2 f3, y⟩
    | bad => rw [ef] at k1; exact k1.elim
  · exact k1.elim
end
section
variable {X : Cx} {W : WX} {a b e : Expr} {es : List Expr} {ta tb te : TE} {tr : TA} {fa fb : Fe} {fr : Env → R (List Cl)} {pos p : Pos} {i : Nat} {x : Str} {st : Stmt} {sts : List Stmt} {ts us : TS} {f g : Env → Out}
theorem paf_nil : PAF X W [] tNil fNil := ⟨pa_nil, sa_nil⟩
theorem paf_cons (ha : PF X W e te fa) (hr : PAF X W es tr fr) (hs : starEach (e :: es) X.env = (false, eval e X.env) :: starEach es X.env := by rfl) : PAF X W (e :: es) (tCons te tr) (fCons fa fr) := ⟨pa_cons ha.p hr.p hs, sa_cons ha.s hr.s⟩
theorem pf_call {k : Nat} {f : Addr} {fd : FuncData} {ps : List Str} {bs : List Bool} {fn : List NW.D → R M} (F : FnOk X.prog X.w X.K X.mg X.base (L2.CX X.prog X.w) k f fd ps (Prom X.K bs fn)) (hr : Room k X.A) (hg : Gl X x) (hm : X.mg x = some (.ref f)) (hk : PySem.W.keepIn X.K (.ref f) = true) (hb : Binds X.K fd ps []) (tk : Takes X W)
    (ha : PAF X W (e :: es) tr fr) (hdb : (x == ("__debug__" : Str)) = false := by decide) (he : starEach (e :: es) X.env = (false, eval e X.env) :: starEach es X.env := by rfl) (hpl : (backTo pos (starEach es X.env)).any (·.1) = false := by rfl) :
    PF X W (.Call (.Name x p) (e :: es) [] pos) (tCallS (Prom X.K bs fn) (WE W) tr) (fCB (gCall bs fn) fr) := ⟨pe_callS F hr hg hm hk hb (fun σ => passAt tk σ) ha.p hdb he hpl, se_call ha.s⟩
theorem pf_fn {k : Nat} {f : Addr} {ps : List Str} {bs : List Bool} {fn : List NW.D → R M} (G : Fok X.prog X.w X.K X.mg X.base k f ps bs fn) (hr : Room k X.A) (hg : Gl X x) (hm : X.mg x = some (.ref f)) (tk : Takes X W)
    (ha : PAF X W (e :: es) tr fr) (hdb : (x == ("__debug__" : Str)) = false := by decide) (he : starEach (e :: es) X.env = (false, eval e X.env) :: starEach es X.env := by rfl) (hpl : (backTo pos (starEach es X.env)).any (·.1) = false := by rfl) :
    PF X W (.Call (.Name x p) (e :: es) [] pos) (tCallS (Prom X.K bs fn) (WE W) tr) (fCB (gCall bs fn) fr) := by
  obtain ⟨fd, F, hb, hk⟩ := G
  exact pf_call F hr hg hm hk hb tk ha hdb he hpl
theorem pf_ix (ha : PF X W a ta fa) (hb : PF X W b tb fb) (hs : PlainIx b := by exact fun _ _ => rfl) : PF X W (.Subscript a b pos) (tOp (rIx X.K) ta tb) (fIx fa fb) := ⟨pe_ix ix_seq ha.p hb.p hs, se_op sr_ix ha.s hb.s⟩
theorem pf_lst (h : PAF X W es tr fr) : PF X W (.List es pos) (tLst tr) (fLst fr) := ⟨pe_lst h.p, se_lst h.s⟩
theorem pf_tup {x1} (h : PAF X W es tr fr) : PF X W (.Tuple es x1 pos) (tTup tr) (fTup fr) := ⟨pe_tup h.p, se_tup h.s⟩
/-- a built-in function, a built-in type, by its rule -/
theorem pf_cb {id : String} {r : List V → Hp → VK → Prop} {g : List Cl → R Cl} (hc : CallR X (.builtin id) r) (hq : SC X.K W r g) (hg : Gl X x) (hm : X.mg x = none) (hv : bootBuiltins x = some (.builtin id)) (ha : PAF X W (e :: es) tr fr) (hn : x ≠ "__name__" := by decide) (hdb : (x == ("__debug__" : Str)) = false := by decide)
    (he : starEach (e :: es) X.env = (false, eval e X.env) :: starEach es X.env := by rfl) (hpl : (backTo pos (starEach es X.env)).any (·.1) = false := by rfl) : PF X W (.Call (.Name x p) (e :: es) [] pos) (tCB r tr) (fCB g fr) := ⟨pe_callB hc hg hm hv ha.p hn hdb he hpl, se_cb hq ha.s⟩
theorem pf_ct {T : String} {r : List V → Hp → VK → Prop} {g : List Cl → R Cl} (hc : CallR X (.type T) r) (hq : SC X.K W r g) (hg : Gl X x) (hm : X.mg x = none) (hv : bootBuiltins x = some (.type T)) (ha : PAF X W (e :: es) tr fr) (hn : x ≠ "__name__" := by decide) (hdb : (x == ("__debug__" : Str)) = false := by decide)
    (he : starEach (e :: es) X.env = (false, eval e X.env) :: starEach es X.env := by rfl) (hpl : (backTo pos (starEach es X.env)).any (·.1) = false := by rfl) : PF X W (.Call (.Name x p) (e :: es) [] pos) (tCB r tr) (fCB g fr) := ⟨pe_callTy hc hg hm hv ha.p hn hdb he hpl, se_cb hq ha.s⟩
theorem pf_gcd (hg : Gl X x) (hm : X.mg x = some (.builtin "math.gcd")) (ha : PAF X W (e :: es) tr fr) (hdb : (x == ("__debug__" : Str)) = false := by decide)
    (he : starEach (e :: es) X.env = (false, eval e X.env) :: starEach es X.env := by rfl) (hpl : (backTo pos (starEach es X.env)).any (·.1) = false := by rfl) : PF X W (.Call (.Name x p) (e :: es) [] pos) (tCB rGcd tr) (fCB gGcd fr) := ⟨pe_callBfun cr_gcd hg hm ha.p hdb he hpl, se_cb sc_gcd ha.s⟩
theorem pf_abs (hg : Gl X "abs") (hm : X.mg "abs" = none) (ha : PAF X W (e :: es) tr fr) (he : starEach (e :: es) X.env = (false, eval e X.env) :: starEach es X.env := by rfl) (hpl : (backTo pos (starEach es X.env)).any (·.1) = false := by rfl) : PF X W (.Call (.Name "abs" p) (e :: es) [] pos) (tCB rAbs tr) (fCB gAbs fr) :=
  pf_cb call_abs sc_abs hg hm (by decide +kernel) ha (by decide) (by decide) he hpl
theorem pf_len (hg : Gl X "len") (hm : X.mg "len" = none) (ha : PAF X W (e :: es) tr fr) (he : starEach (e :: es) X.env = (false, eval e X.env) :: starEach es X.env := by rfl) (hpl : (backTo pos (starEach es X.env)).any (·.1) = false := by rfl) : PF X W (.Call (.Name "len" p) (e :: es) [] pos) (tCB (rLen' X.K) tr) (fCB gLen fr) :=
  pf_cb (CallR.or call_len_seq (CallR.or call_len_str call_lenD)) sc_len hg hm PySem.boot_len ha (by decide) (by decide) he hpl
theorem pf_int1 (hg : Gl X "int") (hm : X.mg "int" = none) (ha : PAF X W (e :: es) tr fr) (he : starEach (e :: es) X.env = (false, eval e X.env) :: starEach es X.env := by rfl) (hpl : (backTo pos (starEach es X.env)).any (·.1) = false := by rfl) : PF X W (.Call (.Name "int" p) (e :: es) [] pos) (tCB rInt tr) (fCB gInt fr) :=
  pf_ct call_int1 sc_int hg hm (by decide +kernel) ha (by decide) (by decide) he hpl
def gNeg (c : Cl) : R Cl := match c.toD with
  | .int i => okI (-i)
  | _ => .bad
def fNeg (f : Fe) : Fe := fun env => (f env).bind gNeg
theorem pf_neg (ha : PF X W a ta fa) : PF X W (.UnaryOp .USub a pos) (tUn (rU fun i => .int (-i)) ta) (fNeg fa) := by
  refine ⟨pe_un un_neg ha.p, ?_⟩
  intro H0 F0 env σ tm H Q h k
  refine ha.s H0 F0 env σ tm H _ h (k.bind.imp fun c _ k1 v H1 hs => ?_)
  have r := hs.last
  unfold gNeg at k1
  split at k1
  · rename_i i e
    rw [e] at r
    exact ⟨i, rep_int r, k1 _ H1 (hs.drop.push_int _)⟩
  · exact k1.elim
/-! statements -/
theorem pbf_nil : PBF X W [] tNext fNext := ⟨pss_nil, ss_next⟩
theorem pbf_cons (h1 : PSF X W st ts f) (h2 : PBF X W sts us g) : PBF X W (st :: sts) (tSeq ts us) (fSeq f g) := ⟨pss_cons h1.p h2.p, ss_seq h1.s h2.s⟩
theorem pbf_one (h1 : PSF X W st ts f) : PBF X W [st] ts f := ⟨pss_one h1.p, h1.s⟩
theorem psf_set {pos' : Pos} (hN : X.N.Nodup) (hi : X.N[i]? = some x) (hx : Loc X.env.scope x) (he : PF X W e te fa) (hs : swapsWith e (some (.Name x pos')) pos.line X.env = pure false := by rfl) (hf : X.fn x = true ∨ X.env.scope.names.lookup x = some .local := by first | exact .inl rfl | exact .inr rfl | assumption) :
    PSF X W (.Assign [.Name x pos'] e pos) (tAsg te (gName i)) (fAsg i fa) := ⟨ps_set hN hi hx he.p hs hf, ss_asg he.s⟩
theorem psf_aft (i : Nat) (h : PSF X W st ts f) : PSF X W st ts (fAft i f) := ⟨h.p, ss_aft h.s⟩
theorem psf_bef (i : Nat) (h : PSF X W st ts f) : PSF X W st ts (fBef i f) := ⟨h.p, ss_bef h.s⟩
theorem psf_ret (he : PF X W e te fa) : PSF X W (.Return (some e) pos) (tRet te) (fRet fa) := ⟨ps_ret he.p, ss_ret he.s⟩
theorem psf_retV (i : Nat) {x : Str} (he : PF X W (.Name x p) (tVar i) (fVar i)) : PSF X W (.Return (some (.Name x p)) pos) (tRet (tVar i)) (fRetV i) := ⟨ps_ret he.p, ss_retV⟩
theorem psf_retN : PSF X W (.Return none pos) tRetN (fun _ => .rt (.im .non)) := ⟨ps_retN, ss_retN⟩
theorem psf_expr (he : PF X W e te fa) (hs : swapsWith e none pos.line X.env = pure false := by rfl) : PSF X W (.Expr e pos) (tDrop te) (fDrop fa) := ⟨ps_expr he.p hs, ss_drop he.s⟩
theorem psf_pass : PSF X W (.Pass pos) tNext fNext := ⟨ps_pass, ss_next⟩
theorem psf_brk : PSF X W (.Break pos) tBreak (fun env => .bk env) := ⟨ps_break, ss_brk⟩
theorem psf_cnt : PSF X W (.Continue pos) tCont (fun env => .ct env) := ⟨ps_continue, ss_cnt⟩
theorem psf_if {c : Expr} {A B : List Stmt} {tc : TT} {fc : Env → R Bool} (hc : PQ X W c tc fc) (ha : PBF X W A ts f) (hb : PBF X W B us g) : PSF X W (.If c A B pos) (tIfS tc ts us) (fIfS fc f g) := ⟨ps_if hc.p ha.p hb.p, ss_if hc.s ha.s hb.s⟩
theorem psf_app (i : Nat) {apos cpos epos npos : Pos} {x : Str} (hv : PF X W (.Name x npos) (tVar i) (fVar i)) (he : PF X W e te fa)
    (hbase : attributeBase (.Name x npos) "append" X.env (eval (.Name x npos) X.env) = eval (.Name x npos) X.env := by rfl)
    (hfew : ((backTo cpos (starEach [e] X.env)).all (fun x => !x.1) && (backToKw cpos (keywordEach [] X.env)).all (fun x => x.1.isSome)
      && decide (([e] : List Expr).length + ([] : List Keyword).length + (if ([] : List Keyword).isEmpty then 0 else 1) < 30)) = true := by rfl)
    (hline : (apos.endLine == cpos.line) = true := by rfl) (hst : starEach [e] X.env = (false, eval e X.env) :: starEach [] X.env := by rfl) (hplain : (backTo cpos (starEach [] X.env)).any (·.1) = false := by rfl)
    (hs : swapsWith (.Call (.Attribute (.Name x npos) "append" apos) [e] [] cpos) none epos.line X.env = pure false := by rfl) :
    PSF X W (.Expr (.Call (.Attribute (.Name x npos) "append" apos) [e] [] cpos) epos) (tDrop (tBM X.K "list" rAppend (tVar i) (tCons te tNil))) (fApp i fa) :=
  ⟨ps_expr (pe_bm PySem.F.plainAttrs_list PySem.F.slot_list_append PySem.F.type_list_append mt_append hv.p (pa_cons he.p pa_nil hst) hbase hfew hline hst hplain) hs, ss_app he.s⟩
theorem psf_setAt (i : Nat) {sl v : Expr} {x : Str} {fi fv : Fe} {ti tv : TE} {npos spos : Pos} (hx : PF X W (.Name x npos) (tVar i) (fVar i)) (hi : PF X W sl ti fi) (hv : PF X W v tv fv)
    (ha : ∀ v, assign (.Subscript (.Name x npos) sl spos) X.env v = (do
      let ov ← holding [v] (eval (.Name x npos) X.env)
      let iv ← holding [v, ov] (eval sl X.env)
      standAt spos
      holding [v, ov, iv] (setItem ov iv v)
      release [v, ov, iv] []) := by intro _; rfl)
    (hs : swapsWithSole [.Subscript (.Name x npos) sl spos] v pos.line X.env = pure false := by rfl) (hw : swappedStores [.Subscript (.Name x npos) sl spos] v X.env = pure none := by rfl)
    (h1 : (assignEach [.Subscript (.Name x npos) sl spos] X.env).map (·.2) = [assign (.Subscript (.Name x npos) sl spos) X.env] := by rfl) :
    PSF X W (.Assign [.Subscript (.Name x npos) sl spos] v pos) (tAsg tv (gSub (tVar i) ti rSetL)) (fSetAt i fv fi) := ⟨ps_asg hv.p (pg_sub hx.p hi.p set_list ha) hs hw h1, ss_setAt hv.s hi.s⟩
theorem psf_aug {g : Int → Int → Int} {op : Operator} {pos' : Pos} (hN : X.N.Nodup) (hi : X.N[i]? = some x) (hx : Loc X.env.scope x) (he : PF X W e te fa) (ho : PIp X op (ipI g)) (hf : X.fn x = true ∨ X.env.scope.names.lookup x = some .local := by first | exact .inl rfl | exact .inr rfl | assumption) :
    PSF X W (.AugAssign (.Name x pos') op e pos) (tAug i te (ipI g)) (fAug i g fa) := ⟨ps_aug hN hi hx he.p ho hf, ss_aug he.s⟩
structure PGF (X : Cx) (tg : Expr) (t : TG) (g : M → Env → Option Env) : Prop where
  p : PG X tg t
  s : SG X.K t g
structure PGFs (X : Cx) (tgs : List Expr) (t : TGs) (g : List M → Env → Option Env) : Prop where
  p : PGs X tgs t
  s : SGs X.K t g
theorem pgf_name (hN : X.N.Nodup) (hi : X.N[i]? = some x) (hx : Loc X.env.scope x) (hf : X.fn x = true ∨ X.env.scope.names.lookup x = some .local := by first | exact .inl rfl | exact .inr rfl | assumption) : PGF X (.Name x pos) (gName i) (gNm i) := ⟨pg_name hN hi hx hf, sg_name⟩
theorem pgfs_nil : PGFs X [] gNil gNls := ⟨pgs_nil, sgs_nil⟩
theorem pgfs_cons {gs : List M → Env → Option Env} {tg : TGs} (hN : X.N.Nodup) (hi : X.N[i]? = some x) (hx : Loc X.env.scope x) (h2 : PGFs X es tg gs) (hs : (assignEach (.Name x pos :: es) X.env).map (·.2) = assign (.Name x pos) X.env :: (assignEach es X.env).map (·.2) := by rfl) (hf : X.fn x = true ∨ X.env.scope.names.lookup x = some .local := by first | exact .inl rfl | exact .inr rfl | assumption) :
    PGFs X (.Name x pos :: es) (gCons (gName i) tg) (gCns i gs) := ⟨pgs_cons (pg_name hN hi hx hf) h2.p hs, sgs_cons h2.s⟩
theorem pgf_tup {k n : Nat} {gs : List M → Env → Option Env} {tg : TGs} (hc : X.calm = true) (h : PGFs X es tg gs) (hn : (assignEach es X.env).length = n := by rfl) (hst : (assignEach es X.env).findIdx? (·.1) = none := by rfl) : PGF X (.Tuple es k pos) (gTup X.K n tg) (gTp n gs) := ⟨pg_tup hc h.p hn hst, sg_tup h.s⟩
theorem pif_seq {tg : Expr} (h : PF X W e te fa) : PIF X W tg e (iSeq X.K te) (iSq fa) := ⟨pi_seq h.p, si_seq h.s⟩
theorem pif_r1 {tg : Expr} (hg : Gl X "range") (hm : X.mg "range" = none) (h : PF X W a ta fa) (hs : starEach [a] X.env = [(false, eval a X.env)] := by rfl) : PIF X W tg (.Call (.Name "range" p) [a] [] pos) (iRng1 (tCons ta tNil)) (iR1 fa) := ⟨pi_range1 hg hm (pa_cons h.p pa_nil hs) hs, si_r1 h.s⟩
theorem pif_r2 {tg : Expr} (hg : Gl X "range") (hm : X.mg "range" = none) (h : PF X W a ta fa) (h2 : PF X W b tb fb) (hs : starEach [a, b] X.env = [(false, eval a X.env), (false, eval b X.env)] := by rfl) (hs2 : starEach [b] X.env = [(false, eval b X.env)] := by rfl) : PIF X W tg (.Call (.Name "range" p) [a, b] [] pos) (iRng2 (tCons ta (tCons tb tNil))) (iR2 fa fb) :=
  ⟨pi_range2 hg hm (pa_cons h.p (pa_cons h2.p pa_nil hs2) (by rw [hs, hs2])) hs hs2, si_r2 h.s h2.s⟩
theorem psf_for {iter tgt : Expr} {body : List Stmt} {wi : TI} {fi : Env → R (List M)} {tg : TG} {g : M → Env → Option Env} (hp : PassesOwn (model X.prog X.w) X.A X.env X.xe) (hc : X.calm = true) (hi : PIF X W tgt iter wi fi) (hg : PGF X tgt tg g) (hb : PBF X W body ts f)
    (hs : ∀ x, foldedSetIterable iter X.env x = pure x := by intro _; rfl) : PSF X W (.For tgt iter body [] pos) (tFor wi tg ts) (fFor fi g f) := ⟨ps_for hp hc hi.p hg.p hb.p hs, ss_for hi.s hg.s hb.s⟩
theorem psf_while {c : Expr} {body : List Stmt} {tc : TT} {fc : Env → R Bool} (fuel : Env → Nat) (hp : PassesOwn (model X.prog X.w) X.A X.env X.xe) (hc : PQ X W c tc fc) (hb : PBF X W body ts f) : PSF X W (.While c body [] pos) (tWhile tc ts) (fun e => fWhile fc f (fuel e) e) := ⟨ps_while hp hc.p hb.p, ss_while fuel hc.s hb.s⟩
end
end NW
set_option Elab.async false
set_option linter.all false
set_option maxRecDepth 100000
set_option maxHeartbeats 2000000
namespace NW
open PySem PySem.Spec PyProof.Rows L2
open Evl (Ex)

/-! ### == of data -/
mutual
def D.py : NW.D → Option PyData
  | .non => some .none
  | .bl b => some (.bool b)
  | .int i => some (.int i)
  | .str x => some (.str x)
  | .lst xs => (D.pys xs).map .list
  | .tup xs => (D.pys xs).map .tuple
  | _ => none
def D.pys : List NW.D → Option (List PyData)
  | [] => some []
  | x :: xs => (match x.py, D.pys xs with
    | some p, some ps => some (p :: ps)
    | _, _ => none)
end
def deq (x y : NW.D) : Option Bool := match x.py, y.py with
  | some p, some q => if (SeqAt.shaped p && SeqAt.shaped q) = true then some (PyData.eqv p q) else none
  | _, _ => none
section
variable {K : PySem.W.Frag} {W : WX} {H0 F0 F H : Hp} {env : Env} {σ : L2.St} {tm ts : Tm} {lab : Lab} {c c' : Cl} {v v' : V} {m : M} {i : Nat}
mutual
theorem Rep.dp : ∀ {v : V} {d : NW.D} {p : PyData}, Rep K H v d → d.py = some p → Dp K H v p
  | _, _, _, .non, e => by simp only [D.py, Option.some.injEq] at e; subst e; exact .non
  | _, _, _, .bl b, e => by simp only [D.py, Option.some.injEq] at e; subst e; exact .bl b
  | _, _, _, .int i, e => by simp only [D.py, Option.some.injEq] at e; subst e; exact .int i
  | _, _, _, .str x, e => by simp only [D.py, Option.some.injEq] at e; subst e; exact .str x
  | _, _, _, .lst h r, e => by
    simp only [D.py, Option.map_eq_some_iff] at e
    obtain ⟨ps, e1, rfl⟩ := e
    exact .lst (SqL.of h) (Reps.dp r e1)
  | _, _, _, .tup h r, e => by
    simp only [D.py, Option.map_eq_some_iff] at e
    obtain ⟨ps, e1, rfl⟩ := e
    exact .tup h (Reps.dp r e1)
  | _, _, _, .fz h, e => by simp only [D.py] at e; exact nomatch e
  | _, _, _, .obj h r, e => by simp only [D.py] at e; exact nomatch e
  | _, _, _, .dK h r, e => by simp only [D.py] at e; exact nomatch e
  | _, _, _, .dT h r, e => by simp only [D.py] at e; exact nomatch e
  | _, _, _, .exc _ _ _ _, e => by simp only [D.py] at e; exact nomatch e
  | _, _, _, .exd _ _ _ _ _ _, e => by simp only [D.py] at e; exact nomatch e
theorem Reps.dp : ∀ {vs : List V} {ds : List NW.D} {ps : List PyData}, Reps K H vs ds → D.pys ds = some ps → DpAll K H vs ps
  | _, _, _, .nil, e => by simp only [D.pys, Option.some.injEq] at e; subst e; exact .nil
  | _, _, _, .cons h r, e => by
    rw [D.pys] at e
    split at e
    · rename_i p ps e1 e2
      cases e
      exact .cons (Rep.dp h e1) (Reps.dp r e2)
    · exact nomatch e
end
def gEq (ne : Bool) : Cl → Cl → R Cl := fun x y => match deq x.toD y.toD with
  | some b => okB (if ne = true then !b else b)
  | none => .bad
theorem sr_eq : SR K W (rEqD K) (gEq false) := by
  intro H0 F0 env σ tm x y v w H Q h k
  obtain ⟨r1, r2, h0⟩ := h.two
  unfold gEq deq at k
  split at k
  · rename_i b e
    split at e
    · rename_i p q e1 e2
      split at e
      · rename_i s
        cases e
        rw [Bool.and_eq_true] at s
        exact ⟨p, q, r1.dp e1, r2.dp e2, s.1, s.2, k _ H (h0.push_bl _)⟩
      · exact nomatch e
    · exact nomatch e
  · exact k.elim
theorem sr_ne : SR K W (rNeD K) (gEq true) := by
  intro H0 F0 env σ tm x y v w H Q h k
  obtain ⟨r1, r2, h0⟩ := h.two
  unfold gEq deq at k
  split at k
  · rename_i b e
    split at e
    · rename_i p q e1 e2
      split at e
      · rename_i s
        cases e
        rw [Bool.and_eq_true] at s
        exact ⟨p, q, r1.dp e1, r2.dp e2, s.1, s.2, k _ H (h0.push_bl _)⟩
      · exact nomatch e
    · exact nomatch e
  · exact k.elim
abbrev fEq := fB (gEq false)
abbrev fNe := fB (gEq true)
/-! is None -/
def rIsN : R2 := fun x y H Q => y = .non ∧ Q (.bl (decide (x = .non))) H
def rNotN : R2 := fun x y H Q => y = .non ∧ Q (.bl (!decide (x = .non))) H
def D.isN : NW.D → Bool
  | .non => true
  | _ => false
def gIsN (neg : Bool) : Cl → Cl → R Cl := fun x y => match y.toD with
  | .non => okB (if neg = true then !x.toD.isN else x.toD.isN)
  | _ => .bad
theorem rep_isN {d : NW.D} (r : Rep K H v d) : decide (v = .non) = d.isN := by
  cases r <;> simp [D.isN]
theorem sr_isN : SR K W rIsN (gIsN false) := by
  intro H0 F0 env σ tm x y v w H Q h k
  obtain ⟨r1, r2, h0⟩ := h.two
  unfold gIsN at k
  split at k
  · rename_i e
    rw [e] at r2
    exact ⟨rep_non r2, by rw [rep_isN r1]; exact k _ H (h0.push_bl _)⟩
  · exact k.elim
theorem sr_notN : SR K W rNotN (gIsN true) := by
  intro H0 F0 env σ tm x y v w H Q h k
  obtain ⟨r1, r2, h0⟩ := h.two
  unfold gIsN at k
  split at k
  · rename_i e
    rw [e] at r2
    exact ⟨rep_non r2, by rw [rep_isN r1]; exact k _ H (h0.push_bl _)⟩
  · exact k.elim
abbrev fIsN := fB (gIsN false)
abbrev fNotN := fB (gIsN true)
/-! chains -/
theorem se_chain {r r' : R2} {g g' : Cl → Cl → R Cl} {ta tb tc : TE} {fa fb fc : Fe} (hr : SR K W r g) (hr' : SR K W r' g') (ha : SE K W ta fa) (hb : SE K W tb fb) (hc : SE K W tc fc) (hk : ∀ H0 F0 env σ tm x y v w H Q, NW.St K H0 F0 env σ (tm ++ [(x, v)] ++ [(y, w)]) H →
    GoodR K W H0 F0 env σ tm (g x y) (fun c => ∃ b, asB c = .ok b ∧ ∀ H', NW.St K H0 F0 env σ (tm ++ [(y, w)]) H' → Q (.bl b) H') → r v w H Q) : SE K W (tChain r r' ta tb tc) (fChain g g' fa fb fc) := by
  intro H0 F0 env σ tm H Q h k
  refine ha H0 F0 env σ tm H _ h (k.bind.imp fun x _ k1 v H1 h1 => ?_)
  refine hb H0 F0 env σ _ H1 _ h1 (k1.bind.more.imp fun y _ k2 w H2 h2 => ?_)
  refine hk H0 F0 env σ tm x y v w H2 _ h2 (k2.bind.imp fun z _ k3 => ?_)
  cases e : asB z with
  | bad => rw [e] at k3; exact k3.elim
  | ex x fs => unfold asB at e; split at e <;> exact nomatch e
  | ok b =>
    rw [e] at k3
    refine ⟨b, rfl, fun H' h' => ⟨b, rfl, ?_⟩⟩
    cases b with
    | false => rw [if_neg Bool.false_ne_true]; exact k3 _ H' (h'.drop.push_bl _)
    | true =>
      rw [if_pos rfl]
      have k4 : GoodR K W H0 F0 env σ tm ((fc env).bind fun w => g' y w) (fun c => ∀ v H', NW.St K H0 F0 env σ (tm ++ [(c, v)]) H' → Q v H') := k3
      refine hc H0 F0 env σ _ H' _ h' (k4.bind.more.imp fun u _ k4 u' H3 h3 => ?_)
      exact hr' H0 F0 env σ tm y u w u' H3 Q h3 k4
theorem hk_B0 {f : Int → Int → Bool} : ∀ H0 F0 env σ tm x y v w H Q, NW.St K H0 F0 env σ (tm ++ [(x, v)] ++ [(y, w)]) H →
    GoodR K W H0 F0 env σ tm (gB0 f x y) (fun c => ∃ b, asB c = .ok b ∧ ∀ H', NW.St K H0 F0 env σ (tm ++ [(y, w)]) H' → Q (.bl b) H') → (rI0 fun i j => .bl (f i j)) v w H Q := by
  intro H0 F0 env σ tm x y v w H Q h k
  obtain ⟨r1, r2, h0⟩ := h.two
  unfold gB0 at k
  split at k
  · rename_i i j e1 e2
    rw [e1] at r1; rw [e2] at r2
    rw [rep_int r1, rep_int r2]
    obtain ⟨b, eb, kk⟩ := k
    have : f i j = b := by
      have : asB (.own (.im (.bl (f i j)))) = .ok (f i j) := rfl
      rw [this] at eb; cases eb; rfl
    refine ⟨i, j, rfl, rfl, ?_⟩
    show Q (.bl (f i j)) H
    rw [this]
    refine kk H ?_
    have q := h0.push_int j
    obtain ⟨F, lab, xx⟩ := h
    -- the second operand alone: an int
    refine ⟨F, lab, Fra.push { xx with tmp := fun n c v e => xx.tmp n c v (by
      have hh := (List.getElem?_eq_some_iff.mp e).1
      rw [List.append_assoc, List.getElem?_append_left hh]; exact e) } ?_⟩
    have rr := (xx.tmp (tm.length + 1) y w (by rw [List.append_assoc, List.getElem?_append_right (by omega)]; simp)).any
    rw [rep_int r2]
    cases y with
    | own m =>
      have : m.toD = .int j := e2
      cases m with
      | im d => exact .im (by rw [show d = .int j by simpa [M.toD] using this]; exact .int j)
      | bo d => exact .bo (by rw [show d = .int j by simpa [M.toD] using this]; exact .int j)
      | lst ms => simp [M.toD] at this
      | tup ms => simp [M.toD] at this
      | obj c fs => simp [M.toD] at this
      | dK kvs => simp [M.toD] at this
      | dT kvs => simp [M.toD] at this
    | vw m =>
      have : m.toD = .int j := e2
      cases m with
      | im d => exact .im (by rw [show d = .int j by simpa [M.toD] using this]; exact .int j)
      | bo d => exact .bo (by rw [show d = .int j by simpa [M.toD] using this]; exact .int j)
      | lst ms => simp [M.toD] at this
      | tup ms => simp [M.toD] at this
      | obj c fs => simp [M.toD] at this
      | dK kvs => simp [M.toD] at this
      | dT kvs => simp [M.toD] at this
  · exact k.elim
/-! ### isinstance, of a built-in type -/
def D.ty : NW.D → Option String
  | .non => some "NoneType"
  | .bl _ => some "bool"
  | .int _ => some "int"
  | .str _ => some "str"
  | .lst _ => some "list"
  | .fz _ => some "list"
  | .tup _ => some "tuple"
  | .dK _ => some "dict"
  | .dT _ => some "dict"
  | .obj _ _ => none
  | .exc _ _ => none
theorem rep_ty {d : NW.D} {t : String} (r : Rep K H v d) (e : d.ty = some t) : TyX K H v (.type t) := by
  cases r with
  | non => cases e; exact .base .non
  | bl b => cases e; exact .base (.bl b)
  | int i => cases e; exact .base (.int i)
  | str x => cases e; exact .base (.str x)
  | lst h r => cases e; exact .base (.lst h)
  | fz h =>
    cases e
    rcases h with (h | ⟨o, h⟩) | ⟨o, its, n, h1, h2, _⟩
    · exact .base (.lst h)
    · exact .base (.frz h)
    · exact .kList h1 h2
  | tup h r =>
    cases e
    rcases h with (h | ⟨o, h⟩) | ⟨o, its, n, h1, h2, _⟩
    · exact .base (.tup h)
    · exact .fTuple h
    · exact .kTuple h1 h2
  | dK h r => cases e; exact .base (.dK h)
  | dT h r => cases e; exact .base (.dT h)
  | obj h r => exact nomatch e
  | exc _ _ _ _ => exact nomatch e
  | exd _ _ _ _ _ _ => exact nomatch e
def gIsT (T : String) (c : Cl) : R Cl := match c.toD.ty with
  | some t => (match kitB t T with
    | some b => okB b
    | none => .bad)
  | none => .bad
def fIsT (T : String) (f : Fe) : Fe := fun env => (f env).bind (gIsT T)
theorem se_isT {T : String} {te : TE} {f : Fe} (h1 : SE K W te f) : SE K W (tCB (rIsi K) (tCons te (tCons (tC (.ty T)) tNil))) (fIsT T f) := by
  intro H0 F0 env σ tm H Q h k
  refine h1 H0 F0 env σ tm H _ h (k.bind.imp fun c _ k1 v H1 hs => ?_)
  unfold gIsT at k1
  split at k1
  · rename_i t e
    split at k1
    · rename_i b eb
      exact ⟨v, .ty T, .type t, .type T, b, rfl, .ty T, rep_ty hs.last e, kit_ty eb, k1 _ H1 (hs.drop.push_bl _)⟩
    · exact k1.elim
  · exact k1.elim
/-! ### slices of lists -/
def oI (f : Option Fe) : Env → R (Option Int) := fun env => match f with
  | none => .ok none
  | some f => (f env).bind fun c => match c.toD with
    | .int i => .ok (some i)
    | _ => .bad
def SO (K : PySem.W.Frag) (W : WX) (to : TO) (f : Env → R (Option Int)) : Prop := ∀ (H0 F0 : Hp) (env : Env) (σ : L2.St) (tm : Tm) (H : Hp) (Q : Option Int → Hp → Prop), NW.St K H0 F0 env σ tm H →
  GoodR K W H0 F0 env σ tm (f env) (fun b => ∀ H', NW.St K H0 F0 env σ tm H' → Q b H') → to σ H Q
theorem so_none : SO K W tNoPart (oI none) := fun H0 F0 env σ tm H Q h k => k H h
theorem so_some {te : TE} {f : Fe} (h1 : SE K W te f) : SO K W (tPart te) (oI (some f)) := by
  intro H0 F0 env σ tm H Q h k
  refine h1 H0 F0 env σ tm H _ h (k.bind.imp fun c _ k1 v H1 hs => ?_)
  have r := hs.last
  split at k1
  · rename_i i e
    rw [e] at r
    exact ⟨i, rep_int r, k1 H1 hs.drop⟩
  · exact k1.elim
def cutL {α : Type} (xs : List α) (lo hi : Option Int) : List α := (xs.drop (HT.sIx xs.length 0 lo)).take (HT.sIx xs.length xs.length hi - HT.sIx xs.length 0 lo)
/-- xs[lo:hi] of a list of leaves -/
def gSl (c : Cl) (lo hi : Option Int) : R Cl := match c.m.items with
  | some (true, ms) => if ms.all leaf = true then .ok (.own (.lst (cutL ms lo hi))) else .bad
  | _ => .bad
def fSl (f : Fe) (lo hi : Env → R (Option Int)) : Fe := fun env => (f env).bind fun c => (lo env).bind fun l => (hi env).bind fun u => gSl c l u
theorem RMs.take' {l : Option Lb} : ∀ {ms : List M} {vs : List V} {n : Nat} (k : Nat), RMs K H0 F H lab l n ms vs → RMs K H0 F H lab l n (ms.take k) (vs.take k)
  | _, _, _, 0, _ => by simp; exact .nil
  | _, _, _, k + 1, .nil => .nil
  | _, _, _, k + 1, .cons a r => .cons a (RMs.take' k r)
theorem RMs.leafs {l l' : Option Lb} : ∀ {ms : List M} {vs : List V} {n n' : Nat}, ms.all leaf = true → RMs K H0 F H lab l n ms vs → RMs K H0 F H lab l' n' ms vs
  | [], _, _, _, _, .nil => .nil
  | m :: ms, _, _, _, hl, .cons a r => by
    rw [List.all_cons, Bool.and_eq_true] at hl
    exact .cons (RM.leaf a hl.1) (RMs.leafs hl.2 r)
theorem RMs.drop' {l : Option Lb} : ∀ {ms : List M} {vs : List V} {n : Nat} (k : Nat), ms.all leaf = true → RMs K H0 F H lab l n ms vs → RMs K H0 F H lab l n (ms.drop k) (vs.drop k)
  | _, _, _, 0, _, r => r
  | _, _, _, k + 1, _, .nil => .nil
  | _, _, _, k + 1, hl, .cons a r => by
    rw [List.all_cons, Bool.and_eq_true] at hl
    exact RMs.leafs (by rw [List.all_eq_true]; intro x hx; exact List.all_eq_true.mp hl.2 x (List.mem_of_mem_drop hx)) (RMs.drop' k hl.2 r)
theorem leaf_move : ∀ {ms : List M} {vs : List V} {n n' : Nat} {H1 H2 : Hp} {lab1 lab2 : Lab} {l1 l2 : Option Lb}, ms.all leaf = true → RMs K H0 F H1 lab1 l1 n ms vs → RMs K H0 F H2 lab2 l2 n' ms vs
  | [], _, _, _, _, _, _, _, _, _, _, .nil => .nil
  | m :: ms, _, _, _, _, _, _, _, _, _, hl, .cons a r => by
    rw [List.all_cons, Bool.and_eq_true] at hl
    refine .cons ?_ (leaf_move hl.2 r)
    cases a with
    | im r => exact .im r
    | bo r => exact .bo r
    | _ => exact nomatch hl.1
/-- the items of the last temp, and a new list (tuple) of leaves from among them -/
theorem _root_.NW.St.itemsNew {k : Bool} {ms : List M} (h : NW.St K H0 F0 env σ (tm ++ [(c, v)]) H) (e : c.m.items = some (k, ms)) :
    ∃ a vs, v = .ref a ∧ (k = true → SqL K H a vs) ∧ (k = false → SqT K H a vs) ∧ vs.length = ms.length ∧
      ∀ (ms' : List M) (vs' : List V) (p : Addr), H p = none → ms'.all leaf = true → (∀ F lab, RMs K H0 F H lab none 0 ms vs → RMs K H0 F H lab none 0 ms' vs') →
        NW.St K H0 F0 env σ (tm ++ [(.own (.lst ms'), .ref p)]) (upd H p (.lst vs')) ∧ NW.St K H0 F0 env σ (tm ++ [(.own (.tup ms'), .ref p)]) (upd H p (.tup vs')) := by
  obtain ⟨F, lab, x⟩ := h
  obtain ⟨a, vs, rfl, h1, h2, h3⟩ := items_of x.fe x.e0 (x.tmp tm.length c v (last_get tm _)).any e
  refine ⟨a, vs, rfl, h1, h2, h3.len.symm, fun ms' vs' p hp hl q => ?_⟩
  have r := q F lab h3
  have x1 : Fra K H0 F0 env σ tm H F lab := { x with tmp := fun j c v e => x.tmp j c v (by
    have := (List.getElem?_eq_some_iff.mp e).1
    rw [List.getElem?_append_left this]; exact e) }
  refine ⟨⟨F, _, (x1.lay (o := .lst vs') hp (L0 := (true, tm.length, []))).push ?_⟩, ⟨F, _, (x1.lay (o := .tup vs') hp (L0 := (true, tm.length, []))).push ?_⟩⟩
  · exact RM.lst upd_same (fun L e => by cases e; exact lay_same) (leaf_move hl r)
  · exact RM.tup upd_same (fun L e => by cases e; exact lay_same) (leaf_move hl r)
theorem all_sub {ms : List M} {lo hi : Option Int} (h : ms.all leaf = true) : (cutL ms lo hi).all leaf = true := by
  rw [List.all_eq_true] at h ⊢
  intro x hx
  exact h x (List.mem_of_mem_drop (List.mem_of_mem_take hx))
theorem se_sl {te : TE} {tl th : TO} {f : Fe} {lo hi : Env → R (Option Int)} (h1 : SE K W te f) (h2 : SO K W tl lo) (h3 : SO K W th hi) : SE K W (tSl (rSlL K) te tl th) (fSl f lo hi) := by
  intro H0 F0 env σ tm H Q h k
  refine h1 H0 F0 env σ tm H _ h (k.bind.imp fun c _ k1 v H1 hs => ?_)
  refine h2 H0 F0 env σ _ H1 _ hs (k1.bind.more.imp fun l _ k2 H2 hs2 => ?_)
  refine h3 H0 F0 env σ _ H2 _ hs2 (k2.bind.more.imp fun u _ k3 H3 hs3 => ?_)
  unfold gSl at k3
  split at k3
  · rename_i ms e
    split at k3
    · rename_i hl
      obtain ⟨a, vs, rfl, q1, _, ql, q4⟩ := hs3.itemsNew e
      refine ⟨a, vs, rfl, q1 rfl, fun p hp => k3 _ _ (q4 (cutL ms l u) (cutV vs l u) p hp (all_sub hl) fun F lab r => ?_).1⟩
      unfold cutL cutV
      rw [ql]
      exact RMs.take' _ (RMs.drop' _ hl r)
    · exact k3.elim
  · exact k3.elim
/-! list(x), tuple(x) -/
def gList : List Cl → R Cl
  | [c] => (match c.m.items with
    | some (_, ms) => if ms.all leaf = true then .ok (.own (.lst ms)) else .bad
    | none => .bad)
  | _ => .bad
def rList' (K : PySem.W.Frag) : List V → Hp → VK → Prop := fun xs H Q => ∃ p ys, xs = [.ref p] ∧ (SqL K H p ys ∨ SqT K H p ys) ∧ ∀ l, H l = none → Q (.ref l) (upd H l (.lst ys))
theorem sc_list : SC K W (rList' K) gList := by
  intro H0 F0 env σ tm cs vs H Q hl h k
  unfold gList at k
  split at k
  · rename_i c
    obtain ⟨v, rfl, e⟩ := zip1 hl
    rw [e] at h
    split at k
    · rename_i kd ms e1
      split at k
      · rename_i q
        obtain ⟨a, ws, rfl, q1, q2, ql, q4⟩ := h.itemsNew e1
        refine ⟨a, ws, rfl, ?_, fun p hp => k _ _ (q4 ms ws p hp q fun _ _ r => r).1⟩
        cases kd with
        | true => exact .inl (q1 rfl)
        | false => exact .inr (q2 rfl)
      · exact k.elim
    · exact k.elim
  · exact k.elim
/-- tuple(x) of a list: a new one; of a frozen (borrowed) tuple: itself -/
def gTuple : List Cl → R Cl
  | [c] => (match c.m.items with
    | some (true, ms) => if ms.all leaf = true then .ok (.own (mkTup ms)) else .bad
    | some (false, _) => (match c with
      | .own (.im d) => .ok (.own (.im d))
      | .own (.bo d) => .ok (.own (.bo d))
      | _ => .bad)
    | none => .bad)
  | _ => .bad
def rTuple' (K : PySem.W.Frag) : List V → Hp → VK → Prop := fun xs H Q => ∃ p ys, xs = [.ref p] ∧ ((SqL K H p ys ∧ ∀ l, H l = none → Q (.ref l) (upd H l (.tup ys))) ∨ (SqT K H p ys ∧ Q (.ref p) H))
theorem sc_tuple : SC K W (rTuple' K) gTuple := by
  intro H0 F0 env σ tm cs vs H Q hl h k
  unfold gTuple at k
  split at k
  · rename_i c
    obtain ⟨v, rfl, e⟩ := zip1 hl
    rw [e] at h
    split at k
    · rename_i ms e1
      split at k
      · rename_i q
        obtain ⟨a, ws, rfl, q1, q2, ql, q4⟩ := h.itemsNew e1
        refine ⟨a, ws, rfl, .inl ⟨q1 rfl, fun p hp => k _ _ ?_⟩⟩
        have h2 := (q4 ms ws p hp q fun _ _ r => r).2
        unfold mkTup
        split
        · rename_i qi
          have := h2.freezeT (ts := []) (by rw [M.pure]; exact pures_im qi)
          rw [M.toD] at this; exact this
        · exact h2
      · exact k.elim
    · rename_i ms e1
      obtain ⟨a, ws, rfl, q1, q2, ql, q4⟩ := h.itemsNew e1
      split at k
      · exact ⟨a, ws, rfl, .inr ⟨q2 rfl, k _ H h⟩⟩
      · exact ⟨a, ws, rfl, .inr ⟨q2 rfl, k _ H h⟩⟩
      · exact k.elim
    · exact k.elim
  · exact k.elim
end
section
variable {X : Cx} {W : WX} {a b c e : Expr} {es : List Expr} {ta tb tc te : TE} {tr : TA} {fa fb fc : Fe} {fr : Env → R (List Cl)} {pos p : Pos} {i : Nat} {x : Str}
theorem pf_eq (hu : X.A.units + 64 < cLine) (ha : PF X W a ta fa) (hb : PF X W b tb fb) : PF X W (.Compare a [.Eq] [b] pos) (tOp (rEqD X.K) ta tb) (fEq fa fb) := pf_cmp (op_eqD hu) sr_eq ha hb (nomark _)
theorem pf_ne (hu : X.A.units + 64 < cLine) (ha : PF X W a ta fa) (hb : PF X W b tb fb) : PF X W (.Compare a [.NotEq] [b] pos) (tOp (rNeD X.K) ta tb) (fNe fa fb) := pf_cmp (op_neD hu) sr_ne ha hb (nomark _)
theorem pq_eq (hu : X.A.units + 64 < cLine) (ha : PF X W a ta fa) (hb : PF X W b tb fb) : PQ X W (.Compare a [.Eq] [b] pos) (tTest (tOp (rEqD X.K) ta tb)) (fTst (fEq fa fb)) := pq_cmp (op_eqD hu) sr_eq ha hb (nomark _)
theorem pq_ne (hu : X.A.units + 64 < cLine) (ha : PF X W a ta fa) (hb : PF X W b tb fb) : PQ X W (.Compare a [.NotEq] [b] pos) (tTest (tOp (rNeD X.K) ta tb)) (fTst (fNe fa fb)) := pq_cmp (op_neD hu) sr_ne ha hb (nomark _)
theorem pf_isN (ha : PF X W a ta fa) (hb : PF X W b tb fb) : PF X W (.Compare a [.Is] [b] pos) (tOp rIsN ta tb) (fIsN fa fb) := pf_cmp op_isN sr_isN ha hb (nomark _)
theorem pf_notN (ha : PF X W a ta fa) (hb : PF X W b tb fb) : PF X W (.Compare a [.IsNot] [b] pos) (tOp rNotN ta tb) (fNotN fa fb) := pf_cmp op_notN sr_notN ha hb (nomark _)
theorem pq_isN (ha : PF X W a ta fa) (hb : PF X W b tb fb) : PQ X W (.Compare a [.Is] [b] pos) (tTest (tOp rIsN ta tb)) (fTst (fIsN fa fb)) := pq_cmp op_isN sr_isN ha hb (nomark _)
theorem pq_notN (ha : PF X W a ta fa) (hb : PF X W b tb fb) : PQ X W (.Compare a [.IsNot] [b] pos) (tTest (tOp rNotN ta tb)) (fTst (fNotN fa fb)) := pq_cmp op_notN sr_notN ha hb (nomark _)
theorem pf_ch {op op' : CmpOp} {f f' : Int → Int → Bool} (ho : OpR X (compareOp op) (rI0 fun i j => .bl (f i j))) (ho' : OpR X (compareOp op') (rI0 fun i j => .bl (f' i j))) (ha : PF X W a ta fa) (hb : PF X W b tb fb) (hc : PF X W c tc fc) (hm : lastMarks [op, op'] [b, c] = false := by with_unfolding_all rfl) :
    PF X W (.Compare a [op, op'] [b, c] pos) (tChain (rI0 fun i j => .bl (f i j)) (rI0 fun i j => .bl (f' i j)) ta tb tc) (fChain (gB0 f) (gB0 f') fa fb fc) := ⟨pe_chain ho ho' ha.p hb.p hc.p hm, se_chain sr_B0 sr_B0 ha.s hb.s hc.s hk_B0⟩
theorem pq_ch {op op' : CmpOp} {f f' : Int → Int → Bool} (ho : OpR X (compareOp op) (rI0 fun i j => .bl (f i j))) (ho' : OpR X (compareOp op') (rI0 fun i j => .bl (f' i j))) (ha : PF X W a ta fa) (hb : PF X W b tb fb) (hc : PF X W c tc fc) (hm : lastMarks [op, op'] [b, c] = false := by with_unfolding_all rfl) :
    PQ X W (.Compare a [op, op'] [b, c] pos) (tTest (tChain (rI0 fun i j => .bl (f i j)) (rI0 fun i j => .bl (f' i j)) ta tb tc)) (fTst (fChain (gB0 f) (gB0 f') fa fb fc)) := ⟨pt_chain ho ho' ha.p hb.p hc.p hm, sb_of (se_chain sr_B0 sr_B0 ha.s hb.s hc.s hk_B0) fun _ _ _ q => q⟩
/-- isinstance(e, T), T a built-in type's name -/
theorem pf_isT {T : String} {y : Str} {p2 : Pos} (hg : Gl X "isinstance") (hm : X.mg "isinstance" = none) (hg2 : Gl X y) (hm2 : X.mg y = none) (hv : bootBuiltins y = some (.type T)) (ha : PF X W e te fa) (hn : y ≠ "__name__" := by decide) (hd : (y == ("__debug__" : Str)) = false := by decide)
    (he : starEach [e, .Name y p2] X.env = (false, eval e X.env) :: starEach [.Name y p2] X.env := by rfl) (he2 : starEach [.Name y p2] X.env = (false, eval (.Name y p2) X.env) :: starEach [] X.env := by rfl) (hpl : (backTo pos (starEach [.Name y p2] X.env)).any (·.1) = false := by rfl) :
    PF X W (.Call (.Name "isinstance" p) [e, .Name y p2] [] pos) (tCB (rIsi X.K) (tCons te (tCons (tC (.ty T)) tNil))) (fIsT T fa) :=
  ⟨pe_callB call_isi hg hm (by decide +kernel) (pa_cons ha.p (pa_cons (pe_bltn hg2 hm2 hv (by rfl) hn hd) pa_nil he2) he) (by decide) (by decide) he hpl, se_isT ha.s⟩
theorem pf_sl {lo hi : Option Expr} {tl th : TO} {fl fh : Env → R (Option Int)} {p2 : Pos} (ha : PF X W e te fa) (hl : PO X lo tl) (sl : SO X.K W tl fl) (hh : PO X hi th) (sh : SO X.K W th fh) : PF X W (.Subscript e (.Slice lo hi none p2) pos) (tSl (rSlL X.K) te tl th) (fSl fa fl fh) := ⟨pe_slice sl_list ha.p hl hh, se_sl ha.s sl sh⟩
structure POF (X : Cx) (W : WX) (e : Option Expr) (t : TO) (f : Env → R (Option Int)) : Prop where
  p : PO X e t
  s : SO X.K W t f
theorem pof_none : POF X W none tNoPart (oI none) := ⟨po_none, so_none⟩
theorem pof_some (h : PF X W e te fa) : POF X W (some e) (tPart te) (oI (some fa)) := ⟨po_some h.p, so_some h.s⟩
theorem pf_slice {lo hi : Option Expr} {tl th : TO} {fl fh : Env → R (Option Int)} {p2 : Pos} (ha : PF X W e te fa) (hl : POF X W lo tl fl) (hh : POF X W hi th fh) : PF X W (.Subscript e (.Slice lo hi none p2) pos) (tSl (rSlL X.K) te tl th) (fSl fa fl fh) := ⟨pe_slice sl_list ha.p hl.p hh.p, se_sl ha.s hl.s hh.s⟩
theorem pf_list (hg : Gl X "list") (hm : X.mg "list" = none) (ha : PAF X W (e :: es) tr fr) (he : starEach (e :: es) X.env = (false, eval e X.env) :: starEach es X.env := by rfl) (hpl : (backTo pos (starEach es X.env)).any (·.1) = false := by rfl) : PF X W (.Call (.Name "list" p) (e :: es) [] pos) (tCB (rList' X.K) tr) (fCB gList fr) :=
  pf_ct call_list_of sc_list hg hm (by decide +kernel) ha (by decide) (by decide) he hpl
theorem pf_tuple (hg : Gl X "tuple") (hm : X.mg "tuple" = none) (ha : PAF X W (e :: es) tr fr) (he : starEach (e :: es) X.env = (false, eval e X.env) :: starEach es X.env := by rfl) (hpl : (backTo pos (starEach es X.env)).any (·.1) = false := by rfl) : PF X W (.Call (.Name "tuple" p) (e :: es) [] pos) (tCB (rTuple' X.K) tr) (fCB gTuple fr) :=
  pf_ct call_tuple_of sc_tuple hg hm (by decide +kernel) ha (by decide) (by decide) he hpl
end
end NW
set_option Elab.async false
set_option linter.all false
set_option maxRecDepth 100000
set_option maxHeartbeats 4000000
namespace NW
open PySem PySem.Spec PyProof.Rows L2
open Evl (Ex)

/-! ### raise X('..'), X a class of the text without an __init__ of its own -/
def fRaise (x : Str) : NW.Env → Out := fun env => .ex env x []
theorem psf_raise0 {X : Cx} {W : WX} {x m : Str} {j : Nat} {bmB : List Value} {B newId initId : String} {p p2 p3 pos : Pos} (hc : X.calm = true) (tk : Takes X W) (F : ExcBaseFacts B newId initId bmB) (q : PySem.W.excIn X.K (He.ga X.K x) bmB newId = true) (gC : X.mg x = some (.ref (He.ga X.K x))) (kC : PySem.W.keepIn X.K (.ref (He.ga X.K x)) = true)
    (r : Raises X (.ref (He.ga X.K x))) (hg : Gl X x) (hdb : (x == ("__debug__" : Str)) = false := by decide) :
    PSF X W (.Raise (some (.Call (.Name x p) [.Constant (.str m) j p2] [] p3)) none pos) (fun _ σ H => W (.ref (He.ga X.K x)) none σ H) (fRaise x) := by
  refine ⟨ps_raise hc tk (pmk_own F q gC kC r hg hdb), ?_⟩
  intro H0 F0 D env σ tm H hw h k
  obtain ⟨F, lab, x⟩ := h
  exact k _ _ σ H ⟨F, lab, x, rfl, .inl ⟨rfl, rfl⟩⟩

/-! ### the caught exception among what is tracked -/
theorem hold {X : Cx} {pins : List (Addr × Obj)} {σ : L2.St} {H : Hp} {s : Shared} {a : Addr} {oe : Obj} {vs : Array Value} (S : Inv (X.suite a ((a, oe) :: (X.pn ++ pins))) [] σ H s) (hd : oe.data = .fields vs)
    (nx : ∀ o, X.s_0.heap.get? a = some o → a ∈ X.ex) (np : ∀ p ∈ X.pn ++ pins, p.1 ≠ a) : Inv (X.suite a (X.pn ++ pins)) [] σ (upd H a (.frz oe (.own a))) s := by
  obtain ⟨h1, h2, h3, h4, _⟩ := S.pin (a, oe) (List.mem_append_left _ List.mem_cons_self)
  have ne : ∀ {b : Addr} {o : HO}, H b = some o → b ≠ a := fun e z => by rw [z, h2] at e; exact nomatch e
  have up : ∀ {b : Addr} {o : HO}, H b = some o → upd H a (.frz oe (.own a)) b = some o := fun e => by rw [upd_ne (ne e)]; exact e
  have ko : (X.suite a (X.pn ++ pins)).Ok := { mod := S.ok.mod, kind := S.ok.kind, glob := S.ok.glob, blt := S.ok.blt, above := S.ok.above, inj := S.ok.inj, has := S.ok.has, cab := S.ok.cab, hd := S.ok.hd, frames := S.ok.frames, stk := S.ok.stk, exf := S.ok.exf, bs := S.ok.bs, bsz := S.ok.bsz, noex := S.ok.noex, exfs := S.ok.exfs, funs := S.ok.funs, frf := S.ok.frf }
  refine ⟨ko, S.os, S.bare, ⟨S.base.keep, S.base.slot, fun b o e n hx => ?_, S.base.there, fun b xs e => up (S.base.tups b xs e), fun b o u e => up (S.base.frzs b o u e), fun b ps e => ?_⟩, S.loc, S.cell, ?_, fun y c e => ?_, fun p hp => ?_, fun b o e => ?_, S.len⟩
  · have : b ≠ a := fun z => hx (by subst z; exact nx o e)
    rw [upd_ne this]; exact S.base.free b o e n hx
  · obtain ⟨m, q⟩ := S.base.tbls b ps e
    exact ⟨m, up q⟩
  · rw [upd_ne (Ne.symm h3)]; exact S.free
  · have : c ≠ a := fun z => by
      obtain ⟨v, o, ho, hc⟩ := S.cell y c e
      rw [z] at ho
      have : some o = some oe := ho.symm.trans h1
      cases this
      rw [hd] at hc; exact nomatch hc
    rw [upd_ne this]; exact S.freeC y c e
  · obtain ⟨q1, q2, q3, q4, q5⟩ := S.pin p (List.mem_append_left _ (List.mem_cons_of_mem _ (by simpa using hp)))
    exact ⟨q1, by rw [upd_ne (np p (by simpa using hp))]; exact q2, q3, q4, q5⟩
  · by_cases z : b = a
    · subst z
      rw [upd_same] at e; cases e
      exact ⟨h1, ⟨oe, h1⟩⟩
    · rw [upd_ne z] at e
      exact (S.hok b o e).stay (fun c v _ q => q) (fun c q => up q) fun c xs q => up q

/-! ### except clauses, with a name or without -/
/-- what a clause does: its class, its name's slot (if it has one), its suite's reading -/
structure Hd where
  c : Value
  i : Option Nat
  ts : TS
/-- the ends of a suite with a name: the name goes -/
def endsOf (i : Nat) (D : Ends) : Ends := { nx := fun σ H => D.nx (σ.set i none) H, rt := D.rt, bk := fun σ H => D.bk (σ.set i none) H, ct := fun σ H => D.ct (σ.set i none) H }
def oneHd (h : Hd) (D : Ends) (cls : Value) (d : Option Addr) (σ : L2.St) (H : Hp) : Prop := match h.i with
  | none => h.ts D σ H
  | some i => ∀ (a : Addr) (oe : Obj) (vs : Array Value), H a = none → oe.cls = cls → oe.dict = d → oe.data = .fields vs → h.ts (endsOf i D) (σ.set i (some (.ref a))) (upd H a (.frz oe (.own a)))
def wHds (K : PySem.W.Frag) (Wout : WX) (D : Ends) : List Hd → WX
  | [] => Wout
  | h :: r => fun cls d σ H => ∃ b, PySem.W.exmOne K cls h.c = some b ∧ (b = true → oneHd h D cls d σ H) ∧ (b = false → wHds K Wout D r cls d σ H)
inductive HdOk (X : Cx) : List ExceptHandler → List Hd → Prop
  | nil : HdOk X [] []
  | only {x : Str} {c : Value} {ts : TS} {b0 : Stmt} {su : List Stmt} {np ps : Pos} {hs : List ExceptHandler} {l : List Hd} (hc : Names X x c)
      (hsu : ∀ (a : Addr) (pn : List (Addr × Obj)), PSs (X.suite a pn) (b0 :: su) ts) (r : HdOk X hs l) :
      HdOk X (.ExceptHandler (some (.Name x np)) none (b0 :: su) ps :: hs) (⟨c, none, ts⟩ :: l)
  | as {x n : Str} {i : Nat} {c : Value} {ts : TS} {b0 : Stmt} {su : List Stmt} {np ps : Pos} {hs : List ExceptHandler} {l : List Hd} (hN : X.N.Nodup) (hi : X.N[i]? = some n) (hl : X.env.kindOf n = some .local) (hc : Names X x c)
      (hsu : ∀ (a : Addr) (pn : List (Addr × Obj)), PSs (X.suite a pn) (b0 :: su) ts) (r : HdOk X hs l) :
      HdOk X (.ExceptHandler (some (.Name x np)) (some n) (b0 :: su) ps :: hs) (⟨c, some i, ts⟩ :: l)
theorem unsuite' {X : Cx} {pins : List (Addr × Obj)} {σ : L2.St} {H : Hp} {s : Shared} {a : Addr} (I : Inv (X.suite a (X.pn ++ pins)) [] σ H s) (ok : X.Ok) : Inv X pins σ H s :=
  ⟨ok, I.os, I.bare, I.base, I.loc, I.cell, I.free, I.freeC, fun p hp => I.pin p (List.mem_append_left _ hp), I.hok, I.len⟩
section
variable {X : Cx} {body : List Stmt} {h0 : ExceptHandler} {hds : List ExceptHandler} {l : List Hd} {pos : Pos} {tb : WX → TS} {Wout : WX}
theorem ps_try_hds (hs : X.stack = X.env :: X.outer) (hf : X.env.frame = some X.env.locals) (tk : Takes X Wout)
    (hb : ∀ (W : WX) (pn : List (Addr × Obj)) (xe : Value → Shared → Prop), Takes (X.tr pn xe) W → PassesOwn (model X.prog X.w) X.A X.env xe → PSs (X.tr pn xe) body (tb W))
    (hh : HdOk X (h0 :: hds) l) : PS X (.Try body (h0 :: hds) [] [] pos) (fun D σ H => tb (wHds X.K Wout D l) D σ H) := by
  refine ⟨fun pins s σ H D I h => ?_⟩
  have ok := I.ok
  have hfr : X.A.frames = some (X.env :: X.outer) := by rw [ok.frames, hs]
  refine wpAny_Try_except ?_
  refine wpAny_mono ((hb (wHds X.K Wout D l) (X.pn ++ pins) (fun e u1 => wpAny (model X.prog X.w) X.A (noteFrame e X.env) (fun _ u2 => wpAny (model X.prog X.w) X.A (setFlight e none) (fun _ u3 =>
    wpAny (model X.prog X.w) X.A (handleBy e X.env (h0 :: hds)) (SP X pins D) X.xe u3) X.xe u2) X.xe u1) (fun u s' xx => ?_) PassesOwn.looking).run [] s σ H D (I.toTry _) h) (fun f s1 q => ?_) (fun e s1 he => he)
  · obtain ⟨a, B, sI, pins', σ', H', cls, d, rfl, J', nb, up, sky, na, os, ag, w⟩ := xx
    have J : Inv X pins σ' H' sI := J'.ofTry ok
    have sky' : Sky B (X.env :: X.outer) a (Zc cls d) X.env.locals s'.heap := by rw [← hs]; exact sky
    show wpAny (model X.prog X.w) X.A (noteFrame (.ref a) X.env) _ _ _
    refine Sky.land Zc.steady hfr hf sky' fun h3 fl3 up3 => ?_
    have J3 : Inv X pins σ' H' { s' with heap := h3 } := J.landed nb fl3.1 (up.trans up3) os ag
    obtain ⟨oe3, vs3, he3, hz3, hd3⟩ := fl3.there
    have nfr : a ∉ frs (X.env :: X.outer) := fun hm => by
      obtain ⟨_, o', e', hnf⟩ := (fl3.2.2.1).mem hm
      rw [he3] at e'; cases e'
      exact hnf _ hd3
    have nL : a ≠ X.env.locals := fun z => nfr (List.mem_filterMap.mpr ⟨X.env, List.mem_cons_self, by rw [hf, z]⟩)
    have nF : a ∉ X.fs := fun hm => by
      obtain ⟨e, he, z⟩ := List.mem_filterMap.mp hm
      exact nfr (List.mem_filterMap.mpr ⟨e, List.mem_cons_of_mem _ he, z⟩)
    have S3 := J3.suite he3 hd3 na nL nF
    have nI : sI.heap.get? a = none := by
      cases q : sI.heap.get? a with
      | none => rfl
      | some o => have := nb a o q (by rw [hs]; exact nfr); rw [fl3.2.1] at this; exact nomatch this
    have nx : ∀ o, X.s_0.heap.get? a = some o → a ∈ X.ex := fun o e => Classical.byContradiction fun hx => by
      obtain ⟨o', q⟩ := J.base.there a o e hx
      rw [nI] at q; exact nomatch q
    have nq : ∀ p ∈ X.pn ++ pins, p.1 ≠ a := fun p hp z => by
      have q := (J.pin p hp).1
      rw [z, nI] at q; exact nomatch q
    have LT : PySem.W.Looks (model X.prog X.w) h3 (typeOf (.ref a)) cls := fun A Q E s k z => wpAny_typeOf_ref (k _ _ he3) (by rw [hz3.1]; exact z)
    have test : ∀ {x : Str} {c : Value} {np : Pos}, Names X x c → ∀ {Q : Value → Shared → Prop} {E : Value → Shared → Prop}, Q c { s' with heap := h3 } → wpAny (model X.prog X.w) (X.A.mark (some (.ref a))) (eval (.Name x np) X.env) Q E { s' with heap := h3 } := fun {x c np} hc {Q E} z => by
      obtain ⟨hg, hdbg, hm | ⟨hm, hv, hnn⟩⟩ := hc
      · exact ld_glob (X := X.suite a ((a, oe3) :: (X.pn ++ pins))) S3 hg hm z hdbg
      · exact ld_blt (X := X.suite a ((a, oe3) :: (X.pn ++ pins))) S3 hg hm hv z hnn hdbg
    have go : ∀ {hs' : List ExceptHandler} {l' : List Hd}, HdOk X hs' l' → wHds X.K Wout D l' cls d σ' H' → wpAny (model X.prog X.w) X.A (handleBy (.ref a) X.env hs') (SP X pins D) X.xe { s' with heap := h3 } := by
      intro hs' l' hk
      induction hk with
      | nil =>
        intro w
        refine wpAny_handleBy_nil ?_
        obtain ⟨k1, k2, k3, oe, vs, T, oT, tv, he, hz, hd, h1, hr⟩ := id fl3
        unfold PySem.passOn
        refine wpAny_bind (wpAny_field he hd h1 ?_)
        rw [if_neg (show ¬ ((Value.ref T == Value.none) = true) from by simp)]
        have fin : wpAny (model X.prog X.w) X.A (setFlight (.ref a) X.env.frame) (fun _ u4 => wpAny (model X.prog X.w) X.A (throw (.ref a) : Sem Flow) (SP X pins D) X.xe u4) X.xe { s' with heap := h3 } := by
          rw [hf]
          refine HandSPX.setFlight_upZ fl3 fun h4 hh4 up4 => wpAny_throw (tk _ _ ?_)
          exact ⟨a, B, sI, pins, σ', H', cls, d, rfl, J, nb, (up.trans up3).trans up4, .inr (.inr (by rw [hs]; exact hh4)), na, os, ag, w⟩
        first
          | exact wpAny_bind (wpAny_pure (wpAny_bind fin))
          | exact wpAny_bind fin
      | only hc hsu r ih =>
        intro w
        obtain ⟨b, hb1, hyes, hno⟩ := w
        refine wpAny_handleBy_cons (codeAny_handlers_test ?_) (by intro z; cases z)
        have LM := PySem.W.exm_one (M := model X.prog X.w) (J3.kIn) LT hb1
        refine test hc (LM.here ?_)
        cases b with
        | true =>
          refine codeAny_handlers_suite ?_
          refine HandSPX.lands_againZ fl3 fun h4 fl4 up4 => ?_
          have J4 : Inv X pins σ' H' { s' with heap := h4 } := J.landed nb fl4.1 ((up.trans up3).trans up4) os ag
          obtain ⟨oe4, vs4, he4, hz4, hd4⟩ := fl4.there
          have S4 := J4.suite he4 hd4 na nL nF
          refine wpAny_mono ((hsu a ((a, oe4) :: (X.pn ++ pins))).run [] _ _ H' _ S4 (hyes rfl)) (fun f s6 z => ?_) (fun _ _ z => False.elim z)
          cases f with
          | ret u => obtain ⟨v6, σ6, H6, S6, r6, q6⟩ := z; exact ⟨_, _, _, S6.unsuite ok, r6, q6⟩
          | next => obtain ⟨σ6, H6, S6, q6⟩ := z; exact ⟨_, _, S6.unsuite ok, q6⟩
          | brk => obtain ⟨σ6, H6, S6, q6⟩ := z; exact ⟨_, _, S6.unsuite ok, q6⟩
          | cont => obtain ⟨σ6, H6, S6, q6⟩ := z; exact ⟨_, _, S6.unsuite ok, q6⟩
        | false => exact ih (hno rfl)
      | @as x n i c ts b0 su np ps hs2 l2 hN hi hl hc hsu r ih =>
        intro w
        obtain ⟨b, hb1, hyes, hno⟩ := w
        refine wpAny_handleBy_cons (codeAny_handlers_test ?_) (by intro z; cases z)
        have LM := PySem.W.exm_one (M := model X.prog X.w) (J3.kIn) LT hb1
        refine test hc (LM.here ?_)
        cases b with
        | true =>
          refine codeAny_handlers_suite_as ?_
          refine HandSPX.lands_againZ fl3 fun h4 fl4 up4 => ?_
          have J4 : Inv X pins σ' H' { s' with heap := h4 } := J.landed nb fl4.1 ((up.trans up3).trans up4) os ag
          obtain ⟨oe4, vs4, he4, hz4, hd4⟩ := fl4.there
          have S4 := J4.suite he4 hd4 na nL nF
          refine store_ok (X := X.suite a ((a, oe4) :: (X.pn ++ pins))) (v := .ref a) S4 hN hi (.inl hl) rfl (fun s5 S5 => ?_) (.inr hl)
          refine wpAny_mono ((hsu a (X.pn ++ pins)).run [] s5 _ _ _ (hold S5 hd4 nx nq) (hyes rfl a oe4 _ na hz4.1 hz4.2 hd4)) (fun f s6 z => ?_) (fun _ _ z => False.elim z)
          have gone : ∀ {σ6 : L2.St} {H6 : Hp} {Q : Shared → Prop}, Inv (X.suite a (X.pn ++ pins)) [] σ6 H6 s6 → (∀ s7, Inv X pins (σ6.set i none) H6 s7 → Q s7) →
              wpAny (model X.prog X.w) X.A (do bindName X.env n .none; unbindBehindTheSuite X.env n ps) (fun _ s7 => Q s7) X.xe s6 := fun {σ6 H6 Q} S6 hq => gone_ok (unsuite' S6 ok) hN hi hl hq
          cases f with
          | ret u => obtain ⟨v6, σ6, H6, S6, r6, q6⟩ := z; exact gone S6 fun s7 J7 => ⟨_, _, _, J7, r6, q6⟩
          | next => obtain ⟨σ6, H6, S6, q6⟩ := z; exact gone S6 fun s7 J7 => ⟨_, _, J7, q6⟩
          | brk => obtain ⟨σ6, H6, S6, q6⟩ := z; exact gone S6 fun s7 J7 => ⟨_, _, J7, q6⟩
          | cont => obtain ⟨σ6, H6, S6, q6⟩ := z; exact gone S6 fun s7 J7 => ⟨_, _, J7, q6⟩
        | false => exact ih (hno rfl)
    exact go hh w
  · cases f with
    | ret u => obtain ⟨v, σ', H', J', r, z⟩ := q; exact ⟨v, σ', H', J'.ofTry ok, r, z⟩
    | next => obtain ⟨σ', H', J', z⟩ := q; exact wpAny_execs_nil ⟨σ', H', J'.ofTry ok, z⟩
    | brk => obtain ⟨σ', H', J', z⟩ := q; exact ⟨σ', H', J'.ofTry ok, z⟩
    | cont => obtain ⟨σ', H', J', z⟩ := q; exact ⟨σ', H', J'.ofTry ok, z⟩
end
end NW
set_option Elab.async false
set_option linter.all false
set_option maxRecDepth 100000
set_option maxHeartbeats 4000000
/-! isinstance over all data, fields of caught exceptions. -/
namespace NW
open PySem PySem.Spec PyProof.Rows L2
open Evl (Ex)

/-! ### classes by name -/
inductive Cn where
  | b (T : String) | o (C : Str)
def Cn.v (K : PySem.W.Frag) : Cn → V
  | .b T => .ty T
  | .o C => .ref (He.ga K C)
def Cn.u (K : PySem.W.Frag) : Cn → Value
  | .b T => .type T
  | .o C => .ref (He.ga K C)
theorem Cn.cv (K : PySem.W.Frag) : ∀ c : Cn, ClsV (c.v K) (c.u K)
  | .b T => .ty T
  | .o C => .own _
/-- an own class of exceptions -/
structure ExcI (K : PySem.W.Frag) (C : Addr) : Prop where
  cl : (PySem.W.clsIn K C).isSome = true
  ga : PySem.W.findIn K (.ref C) "__getattribute__" = some (some (.builtin "BaseException.__getattribute__"))
  gg : PySem.W.findIn K (.ref C) "__getattr__" = some none
  sb : PySem.W.subIn K (.ref C) (.type "BaseException") = some true
  hd : PySem.W.hasDictIn K C = true
  cc : PySem.W.findIn K (.ref C) "__class__" = some (some (.builtin "object.__class__"))
  sp : PySem.W.specialIn K (.builtin "object.__class__") "__get__" = some (some (.builtin "getset_descriptor.__get__"))
  tk : PySem.W.takesIn K (.builtin "object.__class__") = some true
  mo : PySem.W.mroIn K C (.type "object") = some true
def excIB (K : PySem.W.Frag) (C : Addr) : Bool :=
  (PySem.W.clsIn K C).isSome && (decide (PySem.W.findIn K (.ref C) "__getattribute__" = some (some (.builtin "BaseException.__getattribute__")))
    && (decide (PySem.W.findIn K (.ref C) "__getattr__" = some none) && (decide (PySem.W.subIn K (.ref C) (.type "BaseException") = some true)
    && (PySem.W.hasDictIn K C && (decide (PySem.W.findIn K (.ref C) "__class__" = some (some (.builtin "object.__class__")))
    && (decide (PySem.W.specialIn K (.builtin "object.__class__") "__get__" = some (some (.builtin "getset_descriptor.__get__")))
    && (decide (PySem.W.takesIn K (.builtin "object.__class__") = some true) && decide (PySem.W.mroIn K C (.type "object") = some true))))))))
theorem excIB_ok {K : PySem.W.Frag} {C : Addr} (h : excIB K C = true) : ExcI K C := by
  unfold excIB at h
  simp only [Bool.and_eq_true, decide_eq_true_eq] at h
  obtain ⟨h1, h2, h3, h4, h5, h6, h7, h8, h9⟩ := h
  exact ⟨h1, h2, h3, h4, h5, h6, h7, h8, h9⟩
/-- an own class of plain objects -/
structure InsI (K : PySem.W.Frag) (C : Addr) : Prop where
  cl : Cls K C
  cc : PySem.W.findIn K (.ref C) "__class__" = some (some (.builtin "object.__class__"))
  sp : PySem.W.specialIn K (.builtin "object.__class__") "__get__" = some (some (.builtin "getset_descriptor.__get__"))
  tk : PySem.W.takesIn K (.builtin "object.__class__") = some true
  mo : PySem.W.mroIn K C (.type "object") = some true
def insIB (K : PySem.W.Frag) (x : Str) : Bool :=
  (He.Fa.cls x).ok K && (decide (PySem.W.findIn K (.ref (He.ga K x)) "__class__" = some (some (.builtin "object.__class__")))
    && (decide (PySem.W.specialIn K (.builtin "object.__class__") "__get__" = some (some (.builtin "getset_descriptor.__get__")))
    && (decide (PySem.W.takesIn K (.builtin "object.__class__") = some true) && decide (PySem.W.mroIn K (He.ga K x) (.type "object") = some true))))
theorem insIB_ok {K : PySem.W.Frag} {x : Str} (h : insIB K x = true) : InsI K (He.ga K x) := by
  unfold insIB at h
  simp only [Bool.and_eq_true, decide_eq_true_eq] at h
  obtain ⟨h1, h2, h3, h4, h5⟩ := h
  exact ⟨He.cls_ok h1, h2, h3, h4, h5⟩

/-! ### isinstance of all that the layer has -/
/-- an exception that was caught, tracked -/
def ExcAt (H : Hp) (a : Addr) (oe : Obj) (C : Addr) : Prop := H a = some (.frz oe (.own a)) ∧ oe.cls = .ref C ∧ (∃ vs : Array Value, oe.data = .fields vs) ∧ (oe.dict = none ∨ ∃ dx fvs, oe.dict = some dx ∧ H dx = some (.xd fvs))
theorem ExcAt.inst {X : Cx} {pins : List (Addr × Obj)} {σ : L2.St} {H : Hp} {s : Shared} {a C : Addr} {oe : Obj} (I : Inv X pins σ H s) (h : ExcAt H a oe C) : ∃ od, PySem.W.InstAt s.heap a oe C od := by
  obtain ⟨h1, h2, ⟨vs, h3⟩, h4⟩ := h
  have g : s.heap.get? a = some oe := (show ObjOk X.prog X.w H s.heap a (.frz oe (.own a)) from I.hok a _ h1).1
  have n : PySem.W.notCls oe = true := by unfold PySem.W.notCls; rw [h3]
  rcases h4 with h4 | ⟨dx, fvs, h4, h5⟩
  · exact ⟨none, g, h2, n, by rw [h4]; trivial⟩
  · obtain ⟨o, ho⟩ : ∃ o, s.heap.get? dx = some o := by
      obtain ⟨mA, hns, _⟩ := (show ObjOk X.prog X.w H s.heap dx (.xd fvs) from I.hok dx _ h5)
      obtain ⟨od, q, _⟩ := lookIn_ns hns
      exact ⟨od, q⟩
    exact ⟨some o, g, h2, n, by rw [h4]; exact ho⟩
def rIsG (K : PySem.W.Frag) : List V → Hp → VK → Prop := fun xs H Q => rIsi K xs H Q ∨ ∃ (a C : Addr) (oe : Obj) (c : V) (u : Value) (b : Bool), xs = [.ref a, c] ∧ ClsV c u ∧ ExcAt H a oe C ∧ ExcI K C ∧ PySem.W.kitOne K (.ref C) u = some b ∧ Q (.bl b) H
theorem call_isg {X : Cx} : CallR X (.builtin "isinstance") (rIsG X.K) := by
  intro pins s σ H xs us Q I r h
  rcases h with h | ⟨a, C, oe, c, u, b, rfl, k, at_, cI, e, q⟩
  · exact call_isi pins s σ H xs us Q I r h
  · match us, r with
    | [u1, u2], .cons r1 (.cons r2 .nil) =>
      have e2 := k.eq r2
      subst e2
      obtain rfl : u1 = Value.ref a := r1
      obtain ⟨od, J⟩ := at_.inst I
      exact PySem.W.kia_one (PySem.W.kitx_exc cI.cl cI.ga cI.gg cI.sb cI.cc cI.sp cI.tk cI.mo) I.kIn J e (fun z => nomatch z) fun tk => ⟨.bl b, H, I.tok tk, rfl, q⟩
/-- the tables of a law: objects', exceptions', built-in types' answers; fields that no class of an exception has -/
structure Tb where
  o : Str → Cn → Option Bool
  e : Str → Cn → Option Bool
  b : String → Str → Option Bool
  f : Str → Str → Bool
  g : Str → Str → Bool
  x : Str → Str → Option Bool
structure Tab (K : PySem.W.Frag) (t : Tb) : Prop where
  o : ∀ {x : Str} {c : Cn} {r : Bool}, t.o x c = some r → InsI K (He.ga K x) ∧ PySem.W.kitOne K (.ref (He.ga K x)) (c.u K) = some r
  e : ∀ {x : Str} {c : Cn} {r : Bool}, t.e x c = some r → ExcI K (He.ga K x) ∧ PySem.W.kitOne K (.ref (He.ga K x)) (c.u K) = some r
  b : ∀ {T : String} {C : Str} {r : Bool}, t.b T C = some r → PySem.W.kitOne K (.type T) (.ref (He.ga K C)) = some r
  f : ∀ {x f : Str}, t.f x f = true → ExcI K (He.ga K x) ∧ PySem.W.findIn K (.ref (He.ga K x)) f = some none
  g : ∀ {x f : Str}, t.g x f = true → InsI K (He.ga K x) ∧ NoAttr K (He.ga K x) f
  x : ∀ {x C : Str} {r : Bool}, t.x x C = some r → PySem.W.exmOne K (.ref (He.ga K x)) (.ref (He.ga K C)) = some r
def isT2 (t : Tb) (s : String) : Cn → Option Bool
  | .b T => kitB s T
  | .o C => t.b s C
def isQ (t : Tb) (c : Cn) : NW.D → Option Bool
  | .obj x _ => t.o x c
  | .exc x _ => t.e x c
  | d => (match d.ty with
    | some s => isT2 t s c
    | none => none)
def fIs (t : Tb) (c : Cn) (f : Fe) : Fe := fun env => (f env).bind fun x => match isQ t c x.toD with
  | some b => okB b
  | none => .bad
section
variable {K : PySem.W.Frag} {W : WX} {H : Hp} {t : Tb} {c : Cn} {d : NW.D} {b : Bool} {v : V} {te : TE} {f : Fe}
theorem is_ok (T : Tab K t) (r : Rep K H v d) (e : isQ t c d = some b) {Q : VK} (q : Q (.bl b) H) : rIsG K [v, c.v K] H Q := by
  have base : ∀ {s : String}, d.ty = some s → isT2 t s c = some b → rIsG K [v, c.v K] H Q := fun {s} e1 e2 =>
    .inl ⟨v, c.v K, .type s, c.u K, b, rfl, c.cv K, rep_ty r e1, (by cases c with
      | b T' => exact kit_ty e2
      | o C => exact T.b e2), q⟩
  cases r with
  | obj h r =>
    obtain ⟨I, k⟩ := T.o e
    exact .inl ⟨_, c.v K, _, c.u K, b, rfl, c.cv K, .base (.ins h I.cl I.cc I.sp I.tk I.mo), k, q⟩
  | exc h1 h2 h3 h4 =>
    obtain ⟨I, k⟩ := T.e e
    exact .inr ⟨_, _, _, c.v K, c.u K, b, rfl, c.cv K, ⟨h1, h2, ⟨_, h3⟩, .inl h4⟩, I, k, q⟩
  | exd h1 h2 h3 h4 h5 h6 =>
    obtain ⟨I, k⟩ := T.e e
    exact .inr ⟨_, _, _, c.v K, c.u K, b, rfl, c.cv K, ⟨h1, h2, ⟨_, h3⟩, .inr ⟨_, _, h4, h5⟩⟩, I, k, q⟩
  | non => exact base rfl e
  | bl b => exact base rfl e
  | int i => exact base rfl e
  | str x => exact base rfl e
  | lst h r => exact base rfl e
  | tup h r => exact base rfl e
  | fz h => exact base rfl e
  | dK h r => exact base rfl e
  | dT h r => exact base rfl e
theorem se_is (T : Tab K t) (h1 : SE K W te f) : SE K W (tCB (rIsG K) (tCons te (tCons (tC (c.v K)) tNil))) (fIs t c f) := by
  intro H0 F0 env σ tm H Q h k
  refine h1 H0 F0 env σ tm H _ h (k.bind.imp fun x _ k1 v H1 hs => ?_)
  have r := hs.last
  split at k1
  · rename_i b e
    exact is_ok T r e (k1 _ H1 (hs.drop.push_bl _))
  · exact k1.elim
end
section
variable {X : Cx} {W : WX} {t : Tb} {e : Expr} {te : TE} {fa : Fe} {y : Str} {p p2 pos : Pos}
theorem pf_isB {T : String} (tb : Tab X.K t) (hg : Gl X "isinstance") (hm : X.mg "isinstance" = none) (hg2 : Gl X y) (hm2 : X.mg y = none) (hv : bootBuiltins y = some (.type T)) (ha : PF X W e te fa) (hn : y ≠ "__name__" := by decide) (hd : (y == ("__debug__" : Str)) = false := by decide)
    (he : starEach [e, .Name y p2] X.env = (false, eval e X.env) :: starEach [.Name y p2] X.env := by rfl) (he2 : starEach [.Name y p2] X.env = (false, eval (.Name y p2) X.env) :: starEach [] X.env := by rfl) (hpl : (backTo pos (starEach [.Name y p2] X.env)).any (·.1) = false := by rfl) :
    PF X W (.Call (.Name "isinstance" p) [e, .Name y p2] [] pos) (tCB (rIsG X.K) (tCons te (tCons (tC (Cn.v X.K (.b T))) tNil))) (fIs t (.b T) fa) :=
  ⟨pe_callB call_isg hg hm (by decide +kernel) (pa_cons ha.p (pa_cons (pe_bltn hg2 hm2 hv (by rfl) hn hd) pa_nil he2) he) (by decide) (by decide) he hpl, se_is tb ha.s⟩
theorem pf_isO {C : Str} (tb : Tab X.K t) (hg : Gl X "isinstance") (hm : X.mg "isinstance" = none) (hg2 : Gl X C) (hm2 : X.mg C = some (.ref (He.ga X.K C))) (ha : PF X W e te fa) (hd : (C == ("__debug__" : Str)) = false := by decide)
    (he : starEach [e, .Name C p2] X.env = (false, eval e X.env) :: starEach [.Name C p2] X.env := by rfl) (he2 : starEach [.Name C p2] X.env = (false, eval (.Name C p2) X.env) :: starEach [] X.env := by rfl) (hpl : (backTo pos (starEach [.Name C p2] X.env)).any (·.1) = false := by rfl) :
    PF X W (.Call (.Name "isinstance" p) [e, .Name C p2] [] pos) (tCB (rIsG X.K) (tCons te (tCons (tC (Cn.v X.K (.o C))) tNil))) (fIs t (.o C) fa) :=
  ⟨pe_callB call_isg hg hm (by decide +kernel) (pa_cons ha.p (pa_cons (pe_glob hg2 hm2 (by rfl) hd) pa_nil he2) he) (by decide) (by decide) he hpl, se_is tb ha.s⟩
end

/-! ### e.f: a field of an object, of a caught exception -/
def imF : List (Str × NW.D) → List (Str × M)
  | [] => []
  | (f, d) :: r => (f, .im d) :: imF r
def boF : List (Str × NW.D) → List (Str × M)
  | [] => []
  | (f, d) :: r => (f, .bo d) :: boF r
def M.flds : M → Option (Bool × Str × List (Str × M))
  | .im (.obj x fs) => some (false, x, imF fs)
  | .bo (.obj x fs) => some (false, x, boF fs)
  | .obj x ms => some (false, x, ms)
  | .im (.exc x fs) => some (true, x, imF fs)
  | .bo (.exc x fs) => some (true, x, boF fs)
  | _ => none
section
variable {K : PySem.W.Frag} {W : WX} {H0 F0 F H : Hp} {lab : Lab} {env : Env} {σ : L2.St} {tm : Tm} {t : Tb} {c : Cl} {v : V} {te : TE} {f : Str}
theorem rmf_im : ∀ {fs : List (Str × NW.D)} {vs : List (Str × V)} {n : Nat}, RepF K F vs fs → RMf K H0 F H lab none n (imF fs) vs
  | _, _, _, .nil => .nil
  | _, _, _, .cons r s => .cons (.im r) (rmf_im s)
theorem rmf_bo : ∀ {fs : List (Str × NW.D)} {vs : List (Str × V)} {n : Nat}, RepF K H0 vs fs → RMf K H0 F H lab none n (boF fs) vs
  | _, _, _, .nil => .nil
  | _, _, _, .cons r s => .cons (.bo r) (rmf_bo s)
theorem RMf.look : ∀ {ms : List (Str × M)} {vs : List (Str × V)} {n : Nat} {m : M}, RMf K H0 F H lab none n ms vs → ms.lookup f = some m → ∃ w, vs.lookup f = some w ∧ RM K H0 F H lab none m w
  | _, _, _, _, .nil, h => by simp at h
  | _, _, _, _, .cons (x := x) a r, h => by
    rw [List.lookup_cons] at h ⊢
    by_cases c : (f == x) = true
    · rw [c] at h ⊢; simp at h; subst h; exact ⟨_, rfl, a⟩
    · rw [Bool.not_eq_true] at c; rw [c] at h ⊢; exact RMf.look r h
def fldCell (K : PySem.W.Frag) (H : Hp) (k : Bool) (x : Str) (a : Addr) (vs : List (Str × V)) : Prop := match k with
  | false => ∃ dx, H a = some (.ins (He.ga K x) dx vs)
  | true => ∃ oe, ExcAt H a oe (He.ga K x) ∧ (vs = [] ∨ ∃ dx, oe.dict = some dx ∧ H dx = some (.xd vs))
theorem flds_of {k : Bool} {x : Str} {m : M} {ms : List (Str × M)} (fe : Ex F H) (e0 : Ex H0 H) (r : RM K H0 F H lab none m v) (e : m.flds = some (k, x, ms)) : ∃ a vs, v = .ref a ∧ fldCell K H k x a vs ∧ RMf K H0 F H lab none 0 ms vs := by
  have go : ∀ {G : Hp} {d : NW.D} {g : List (Str × NW.D) → List (Str × M)}, Ex G H → (∀ {fs : List (Str × NW.D)} {vs : List (Str × V)}, RepF K G vs fs → RMf K H0 F H lab none 0 (g fs) vs) → Rep K G v d → ∀ fs, (d = .obj x fs ∧ k = false ∨ d = .exc x fs ∧ k = true) → ms = g fs → ∃ a vs, v = .ref a ∧ fldCell K H k x a vs ∧ RMf K H0 F H lab none 0 ms vs := by
    intro G d g ex conv r fs hd hm
    subst hm
    rcases hd with ⟨rfl, rfl⟩ | ⟨rfl, rfl⟩
    · cases r with
      | obj h s => exact ⟨_, _, rfl, ⟨_, ex _ _ h⟩, conv s⟩
    · cases r with
      | exc h1 h2 h3 h4 => exact ⟨_, [], rfl, ⟨_, ⟨ex _ _ h1, h2, ⟨_, h3⟩, .inl h4⟩, .inl rfl⟩, conv .nil⟩
      | exd h1 h2 h3 h4 h5 h6 => exact ⟨_, _, rfl, ⟨_, ⟨ex _ _ h1, h2, ⟨_, h3⟩, .inr ⟨_, _, h4, ex _ _ h5⟩⟩, .inr ⟨_, h4, ex _ _ h5⟩⟩, conv h6⟩
  cases r with
  | im r =>
    rename_i d
    cases d with
    | obj y fs => cases e; exact go fe (fun s => rmf_im s) r fs (.inl ⟨rfl, rfl⟩) rfl
    | exc y fs => cases e; exact go fe (fun s => rmf_im s) r fs (.inr ⟨rfl, rfl⟩) rfl
    | _ => exact nomatch e
  | bo r =>
    rename_i d
    cases d with
    | obj y fs => cases e; exact go e0 (fun s => rmf_bo s) r fs (.inl ⟨rfl, rfl⟩) rfl
    | exc y fs => cases e; exact go e0 (fun s => rmf_bo s) r fs (.inr ⟨rfl, rfl⟩) rfl
    | _ => exact nomatch e
  | obj h w s => cases e; exact ⟨_, _, rfl, ⟨_, h⟩, s⟩
  | lst h w s => exact nomatch e
  | tup h w s => exact nomatch e
  | dK h w s => exact nomatch e
  | dT h w s => exact nomatch e
theorem St.fldsOf {k : Bool} {x : Str} {ms : List (Str × M)} (h : NW.St K H0 F0 env σ (tm ++ [(c, v)]) H) (e : c.m.flds = some (k, x, ms)) :
    ∃ a vs, v = .ref a ∧ fldCell K H k x a vs ∧ ∀ (m : M), ms.lookup f = some m → ∃ w, vs.lookup f = some w ∧ NW.St K H0 F0 env σ (tm ++ [(view m, w)]) H := by
  obtain ⟨F, lab, y⟩ := h
  obtain ⟨a, vs, rfl, h1, h2⟩ := flds_of y.fe y.e0 (y.tmp tm.length c v (last_get tm _)).any e
  refine ⟨a, vs, rfl, h1, fun m hm => ?_⟩
  obtain ⟨w, w1, w3⟩ := RMf.look h2 hm
  refine ⟨w, w1, F, lab, Fra.push { y with tmp := fun j c v e => y.tmp j c v (by
    have := (List.getElem?_eq_some_iff.mp e).1
    rw [List.getElem?_append_left this]; exact e) } ?_⟩
  rcases view_kind m with ⟨d, q⟩ | ⟨d, q⟩ | ⟨m', q⟩
  · have : m = .im d := by rw [← view_m m, q]; rfl
    subst this
    cases w3 with | im r => exact .im r
  · have : m = .bo d := by rw [← view_m m, q]; rfl
    subst this
    cases w3 with | bo r => exact .bo r
  · have : m = m' := by rw [← view_m m, q]; rfl
    subst this
    rw [q]; exact w3
def tAt (K : PySem.W.Frag) (ta : TE) (f : Str) : TE := fun σ H Q => ta σ H fun x H1 => ∃ (a C : Addr) (vs : List (Str × V)) (w : V), x = .ref a ∧ vs.lookup f = some w ∧ Q w H1 ∧
  ((Cls K C ∧ NoAttr K C f ∧ ∃ dx, H1 a = some (.ins C dx vs)) ∨ (ExcI K C ∧ PySem.W.findIn K (.ref C) f = some none ∧ ∃ oe dx, ExcAt H1 a oe C ∧ oe.dict = some dx ∧ H1 dx = some (.xd vs)))
theorem pe_at {X : Cx} {e : Expr} {pos : Pos} (he : PE X e te) (hb : attributeBase e f X.env (eval e X.env) = eval e X.env) : PE X (.Attribute e f pos) (tAt X.K te f) := by
  refine ⟨fun pins s σ H Q I h => attr_of hb (thn (he.run pins s σ H _ I h) fun u s1 ⟨x, H1, I1, rx, a, C, vs, w, ex, l, q, hh⟩ => ?_)⟩
  subst ex
  obtain rfl : u = Value.ref a := rx
  rcases hh with ⟨c, n, dx, ea⟩ | ⟨cI, n, oe, dx, at_, ed, ex⟩
  · exact getattr_ok I1 ea c n l fun u' s2 I2 ru => ⟨w, H1, I2, ru, q⟩
  · obtain ⟨mA, hns, hr⟩ := (show ObjOk X.prog X.w H1 s1.heap dx (.xd vs) from I1.hok dx _ ex)
    obtain ⟨od, ho, hl⟩ := lookIn_ns hns
    obtain ⟨u, hu, ru⟩ := RelO.some_of (v := w) (o := mA f) (by rw [← l]; exact hr f)
    obtain ⟨a1, a2, ⟨vs', a3⟩, _⟩ := at_
    have J : PySem.W.InstAt s1.heap a oe C (some od) := ⟨(show ObjOk X.prog X.w H1 s1.heap a (.frz oe (.own a)) from I1.hok a _ a1).1, a2, by unfold PySem.W.notCls; rw [a3], by rw [ed]; exact ho⟩
    exact HandSPX.exc_get I1.kIn J cI.ga cI.gg cI.sb (PySem.W.findObj_own cI.hd n rfl (by rw [hl, hu])) (handed_of ru) ⟨w, H1, I1.tok _, ru, q⟩
def Tb.fg (t : Tb) (x f : Str) : Bool → Bool
  | true => t.f x f
  | false => t.g x f
def gAt (t : Tb) (f : Str) (c : Cl) : R Cl := match c.m.flds with
  | some (k, x, ms) => if t.fg x f k = true then (match ms.lookup f with
    | some m => .ok (view m)
    | none => .bad) else .bad
  | none => .bad
def fAt (t : Tb) (f : Str) (fe : Fe) : Fe := fun env => (fe env).bind (gAt t f)
theorem se_at {fe : Fe} (T : Tab K t) (h1 : SE K W te fe) : SE K W (tAt K te f) (fAt t f fe) := by
  intro H0 F0 env σ tm H Q h k
  refine h1 H0 F0 env σ tm H _ h (k.bind.imp fun x _ k1 v H1 hs => ?_)
  unfold gAt at k1
  split at k1
  · rename_i kd x ms e
    split at k1
    · rename_i hc
      split at k1
      · rename_i m el
        obtain ⟨a, vs, rfl, h2, h3⟩ := hs.fldsOf (f := f) e
        obtain ⟨w, w1, w2⟩ := h3 m el
        cases kd with
        | false =>
          obtain ⟨dx, h2⟩ := h2
          obtain ⟨i1, i2⟩ := T.g (x := x) (f := f) hc
          exact ⟨a, _, vs, w, rfl, w1, k1 w H1 w2, .inl ⟨i1.cl, i2, dx, h2⟩⟩
        | true =>
          obtain ⟨oe, h2, h4⟩ := h2
          obtain ⟨i1, i2⟩ := T.f (x := x) (f := f) hc
          rcases h4 with rfl | ⟨dx, h5, h6⟩
          · simp at w1
          · exact ⟨a, _, vs, w, rfl, w1, k1 w H1 w2, .inr ⟨i1, i2, oe, dx, h2, h5, h6⟩⟩
      · exact k1.elim
    · exact k1.elim
  · exact k1.elim
theorem pf_at {X : Cx} {e : Expr} {pos : Pos} {fe : Fe} (T : Tab X.K t) (he : PF X W e te fe) (hb : attributeBase e f X.env (eval e X.env) = eval e X.env := by rfl) : PF X W (.Attribute e f pos) (tAt X.K te f) (fAt t f fe) := ⟨pe_at he.p hb, se_at T he.s⟩
end
end NW
set_option Elab.async false
set_option linter.all false
set_option maxRecDepth 100000
set_option maxHeartbeats 4000000
/-! defs that may be called whatever is handled: they neither raise nor walk loops. -/
namespace NW
open PySem PySem.Spec PyProof.Rows L2 L2H
open Evl (Ex)
abbrev W0 : WX := fun _ _ _ _ => False
abbrev E00 : XK := fun _ _ _ => False
theorem takes0 {X : Cx} : Takes X W0 := fun _ _ ⟨_, _, _, _, _, _, _, _, _, _, _, _, _, _, _, _, w⟩ => w.elim
theorem Room.warm {k : Nat} {A : Around} (r : Room k A) (v : Option Value) : RoomH k (A.mark v) := ⟨r.dp, r.un⟩
theorem RoomH.warm {k : Nat} {A : Around} (r : RoomH k A) (v : Option Value) : RoomH k (A.mark v) := ⟨r.dp, r.un⟩
theorem RoomH.units {k : Nat} {A : Around} (r : RoomH k A) : A.units + 64 < cLine := by have := r.un; omega
def cxW (P : Program) (w : World) (K : PySem.W.Frag) (mg : Str → Option Value) (base : Heap) (N : List Str) (qual : Str) (scope : Scope) (f : Addr) (cd : Value) (A : Around) (outer : List PySem.Env) (s : Shared) (H : Hp) : Cx :=
  { cxOf (L2.CX P w) P w K mg base N qual scope f cd A outer s H E00 with calm := false }
structure FnW (P : Program) (w : World) (K : PySem.W.Frag) (mg : Str → Option Value) (base : Heap) (k : Nat) (f : Addr) (fd : FuncData) (ps : List Str) (sp : Sp) : Prop where
  len : ∀ vs H Q, sp vs H Q E00 → vs.length = ps.length
  run : ∀ (A : Around) (outer : List PySem.Env) (s : Shared) (H : Hp) (args : PySem.Args) (us : List Value) (vs : List V) (Q : VK),
    RoomH k A → Env0 P w K mg base A outer s H → BindsTo s fd args (ps.zip us) → Vals vs us → sp vs H Q E00 → codeAny (model P w) A (.call (.ref f) args) (CR (L2.CX P w) outer P w H s Q E00) s
section
variable {P : Program} {w : World} {K : PySem.W.Frag} {mg : Str → Option Value} {base : Heap} {qual x : Str} {params : Arguments} {body : List Stmt} {scope : Scope} {f : Addr} {fd : FuncData} {N ps : List Str} {k : Nat} {sp : Sp}
theorem inv_warm {p : Addr × Obj} {cd : Value} {A : Around} {outer : List PySem.Env} {s s1 : Shared} {H : Hp} {σ : L2.St} (I : Inv (cxH (L2.CX P w) P w K mg base N qual scope f cd A outer s H E00 p) [] σ H s1) : Inv (cxW P w K mg base N qual scope f cd A outer s H) [] σ H s1 := by
  have ko : (cxW P w K mg base N qual scope f cd A outer s H).Ok := { mod := I.ok.mod, kind := I.ok.kind, glob := I.ok.glob, blt := I.ok.blt, above := I.ok.above, inj := I.ok.inj, has := I.ok.has, cab := I.ok.cab, hd := I.ok.hd, frames := I.ok.frames, stk := I.ok.stk, exf := I.ok.exf, bs := I.ok.bs, bsz := I.ok.bsz, noex := I.ok.noex, exfs := I.ok.exfs, funs := I.ok.funs, frf := I.ok.frf }
  exact ⟨ko, I.os, I.bare, I.base, I.loc, I.cell, I.free, I.freeC, fun q hq => (nomatch (show q ∈ ([] : List (Addr × Obj)) from hq)), I.hok, I.len⟩
theorem fn_warm (F : FunD K x qual params body scope [] [] f fd) (S : FnScope N ps scope) (len : ∀ vs H Q, sp vs H Q E00 → vs.length = ps.length)
    (hb : ∀ (cdv : Value) (A : Around) (outer : List PySem.Env) (s : Shared) (H : Hp) (vs : List V) (Q : VK), RoomH k (A.deeper (envOfC qual scope s.heap.objs.size f cdv)) → sp vs H Q E00 →
      ∃ t, PSs (cxW P w K mg base N qual scope f cdv A outer s H) body t ∧ t { nx := fun _ H' => Q .non H', rt := Q } (L2.start N vs) H) : FnW P w K mg base (k + 1) f fd ps sp := by
  obtain ⟨oc, od, dV, kV, doc, pm, an, cdv, ct, osl, rfl, lk, hcd, _, _⟩ := F.ex
  refine ⟨len, fun A outer s H args us vs Q hr e0 bt r h => ?_⟩
  have hl := len _ _ _ h
  have bk : ∀ b o, base.get? b = some o → s.heap.get? b = some o := fun b o e => (e0.bs b o e).1
  have KX : K.In s.heap := e0.mod.kin.keeps bk
  have bf := e0.mod.kin _ _ lk
  have pk : PinOk outer H s (f, _) := ⟨(e0.bs _ _ bf).1, (e0.bs _ _ bf).2, fun hm => (by
    have := (e0.funs.mem hm).1
    rw [bf] at this; exact nomatch this), fun v z => nomatch z⟩
  have par : ∀ y ∈ ps.zip us, scope.names.lookup y.1 = some .local ∨ (scope.names.lookup y.1 = some .cell ∧ ((cellsFrom (s.heap.objs.size + 1) scope.names []).lookup y.1).isSome = true) := by
    rintro ⟨n, v⟩ hy
    rcases S.par n (List.of_mem_zip hy).1 with q | q
    · exact .inl q
    · exact .inr ⟨q, PySem.W.cellsFrom_some _ _ _ (.inl q)⟩
  refine codeAny_call_function hr.depth (KX _ _ lk) rfl S.co S.gen rfl (PySem.W.codeRec_of KX hcd) (bt _ _ _ _ (wpAny_newFunctionEnv_cells S.kind par fun env he s1 y => ?_))
  subst he
  refine ⟨(e0.mod.nolimit.keeps bk).keeps y.toInCall.keep, codeAny_func ?_⟩
  obtain ⟨t, ht, hq⟩ := hb cdv A outer s H vs Q (hr.deeper _) h
  have I := inv_warm (inv_startH (CX := L2.CX P w) (E := E00) S pk e0 hl r y)
  refine wpAny_mono (ht.run [] s1 _ H _ I hq) (fun fl s' hs => ?_) fun e s' hs => hs
  cases fl with
  | ret u =>
    obtain ⟨v, σ', H', J, rv, q⟩ := hs
    exact ⟨v, H', J.os, J.bare, J.base, J.hok, rv, q⟩
  | next =>
    obtain ⟨σ', H', J, q⟩ := hs
    exact ⟨V.non, H', J.os, J.bare, J.base, J.hok, rfl, q⟩
  | brk =>
    obtain ⟨_, _, _, q⟩ := hs
    exact q.elim
  | cont =>
    obtain ⟨_, _, _, q⟩ := hs
    exact q.elim
/-- a def without raise and loops, by a function -/
def FokW (P : Program) (w : World) (K : PySem.W.Frag) (mg : Str → Option Value) (base : Heap) (k : Nat) (f : Addr) (ps : List Str) (bs : List Bool) (fn : List NW.D → R M) : Prop :=
  ∃ fd, FnW P w K mg base k f fd ps (Prom K bs fn) ∧ Binds K fd ps [] ∧ PySem.W.keepIn K (.ref f) = true
theorem def_okW {bs : List Bool} {fn : List NW.D → R M} {fb : NW.Env → Out} (Fu : FunD K x qual params body scope [] [] f fd) (S : FnScope N ps scope) (hbs : bs.length = ps.length)
    (hb : ∀ (cdv : Value) (A : Around) (outer : List PySem.Env) (s : Shared) (H : Hp), RoomH k (A.deeper (envOfC qual scope s.heap.objs.size f cdv)) →
      ∃ ts, PBF (cxW P w K mg base N qual scope f cdv A outer s H) W0 body ts fb)
    (h : ∀ ds, fn ds ≠ .bad → endO (fb (startE N.length bs ds)) = fn ds) : FnW P w K mg base (k + 1) f fd ps (Prom K bs fn) := by
  refine fn_warm Fu S (fun vs H Q hp => ?_) (fun cdv A outer s H vs Q hr hp => ?_)
  · obtain ⟨ds, F, _, a, _⟩ := hp
    rw [a.len.1, hbs]
  · obtain ⟨ts, hp1, hs1⟩ := hb cdv A outer s H hr
    refine ⟨ts, hp1, ?_⟩
    obtain ⟨ds, F, fe, a, q⟩ := hp
    have hst := st_start (N := N) fe a
    refine hs1 H F _ _ _ [] H Owns.nil hst ?_
    have hne : fn ds ≠ .bad := fun e => by rw [e] at q; exact q
    have e := h ds hne
    cases eo : fb (startE N.length bs ds) with
    | nx env => rw [eo] at e; rw [← e] at q; exact fun σ H' hs => q .non H' (hs.push_non.ret rfl)
    | rt m => rw [eo] at e; rw [← e] at q; exact q
    | ex env x fs => rw [eo] at e; rw [← e] at q; exact fun cls d σ H' hs => q cls d H' (by obtain ⟨F, lab, x, y⟩ := hs; exact ⟨x.e0, F, x.f0, x.fe, x.new, y⟩)
    | bk env => rw [eo] at e; exact absurd e.symm hne
    | ct env => rw [eo] at e; exact absurd e.symm hne
    | bad => rw [eo] at e; exact absurd e.symm hne
end
section
variable {X : Cx} {e : Expr} {es : List Expr} {tr : TA} {fr : NW.Env → R (List Cl)} {pos p : Pos} {x : Str}
theorem pe_callW {k : Nat} {f : Addr} {fd : FuncData} {ps : List Str} {sp : Sp} (F : FnW X.prog X.w X.K X.mg X.base k f fd ps sp) (hr : RoomH k X.A) (hg : Gl X x) (hm : X.mg x = some (.ref f)) (hk : PySem.W.keepIn X.K (.ref f) = true) (hb : Binds X.K fd ps [])
    (ha : PA X (e :: es) tr) (hdb : (x == ("__debug__" : Str)) = false := by decide) (he : starEach (e :: es) X.env = (false, eval e X.env) :: starEach es X.env := by rfl) (hpl : (backTo pos (starEach es X.env)).any (·.1) = false := by rfl) :
    PE X (.Call (.Name x p) (e :: es) [] pos) (tCallS sp (WE W0) tr) := by
  refine ⟨fun pins s σ H Q I h => wpAny_Call_Name_kw (ld_glob I hg hm ?_ hdb)⟩
  refine PySem.W.callWith_K (h₀ := X.base) I.ok.mod.kin hk (thn (ha.run pos pins s σ H _ I h) fun us s1 ⟨vs, H1, I1, r, q⟩ => ⟨I1.kIn, ?_⟩) he hpl
  have hl : us.length = ps.length := by rw [← r.length]; exact F.len _ _ _ q
  have b := hb s1 us I1.kIn (by rw [List.append_nil]; exact hl)
  rw [List.append_nil] at b
  refine wpAny_call (codeAny_mono (F.run X.A X.stack s1 H1 ⟨us, []⟩ us vs Q hr I1.env0 b r q) fun r s' hq => ?_)
  cases r with
  | error e =>
    obtain ⟨_, _, _, _, _, _, _, _, _, _, _, _, z⟩ := hq
    exact z.elim
  | ok fl =>
    cases fl with
    | ret u => exact I1.after hq
    | next => exact False.elim hq
    | brk => exact False.elim hq
    | cont => exact False.elim hq
theorem pf_fnW {k : Nat} {f : Addr} {ps : List Str} {bs : List Bool} {fn : List NW.D → R M} (G : FokW X.prog X.w X.K X.mg X.base k f ps bs fn) (hr : RoomH k X.A) (hg : Gl X x) (hm : X.mg x = some (.ref f))
    (ha : PAF X W0 (e :: es) tr fr) (hdb : (x == ("__debug__" : Str)) = false := by decide) (he : starEach (e :: es) X.env = (false, eval e X.env) :: starEach es X.env := by rfl) (hpl : (backTo pos (starEach es X.env)).any (·.1) = false := by rfl) :
    PF X W0 (.Call (.Name x p) (e :: es) [] pos) (tCallS (Prom X.K bs fn) (WE W0) tr) (fCB (gCall bs fn) fr) := by
  obtain ⟨fd, F, hb, hk⟩ := G
  exact ⟨pe_callW F hr hg hm hk hb ha.p hdb he hpl, se_call ha.s⟩
/-- what is never reached where nothing may raise -/
theorem psf_bad {X : Cx} {W : WX} {st : Stmt} : PSF X W st (fun _ _ _ => False) (fun _ => .bad) := ⟨⟨fun _ _ _ _ _ _ h => h.elim⟩, fun _ _ _ _ _ _ _ _ _ h => h⟩
end
end NW
set_option Elab.async false
set_option linter.all false
set_option maxRecDepth 100000
set_option maxHeartbeats 4000000
/-! try, by functions. -/
namespace NW
open PySem PySem.Spec PyProof.Rows L2 L2H
open Evl (Ex)
section
variable {X : Cx} {W : WX}
/-- the except clauses, by a function of the state, the exception's class, its fields -/
structure HdF (X : Cx) (W : WX) (hs : List ExceptHandler) (l : List Hd) (fh : NW.Env → Str → List (Str × NW.D) → Out) : Prop where
  ok : HdOk X hs l
  s : ∀ (H0 F0 : Hp) (D : Ends) (env : NW.Env) (σ : L2.St) (tm : Tm) (H : Hp) (x : Str) (fs : List (Str × NW.D)) (cls : Value) (d : Option Addr), Owns tm → StX X.K H0 F0 env σ tm H x fs cls d → GoodS X.K W H0 F0 D tm (fh env x fs) → wHds X.K W D l cls d σ H
def fTry (fb : NW.Env → Out) (fh : NW.Env → Str → List (Str × NW.D) → Out) : NW.Env → Out := fun env => match fb env with
  | .ex e x fs => fh e x fs
  | o => o
/-- what a body asks, whatever stands around it -/
def tBody (X : Cx) (body : List Stmt) (W' : WX) : TS := fun D σ H => ∀ (pn : List (Addr × Obj)) (xe : Value → Shared → Prop), Takes (X.tr pn xe) W' → PassesOwn (model X.prog X.w) X.A X.env xe → ∃ ts, PSs (X.tr pn xe) body ts ∧ ts D σ H
/-- what a suite asks -/
def tSuite (X : Cx) (su : List Stmt) : TS := fun D σ H => ∀ (a : Addr) (pn : List (Addr × Obj)), ∃ ts, PSs (X.suite a pn) su ts ∧ ts D σ H
theorem psf_try {body : List Stmt} {h0 : ExceptHandler} {hds : List ExceptHandler} {l : List Hd} {pos : Pos} {fb : NW.Env → Out} {fh : NW.Env → Str → List (Str × NW.D) → Out} (hs : X.stack = X.env :: X.outer) (hf : X.env.frame = some X.env.locals) (tk : Takes X W)
    (hb : ∀ (W' : WX) (pn : List (Addr × Obj)) (xe : Value → Shared → Prop), Takes (X.tr pn xe) W' → PassesOwn (model X.prog X.w) X.A X.env xe → ∃ ts, PBF (X.tr pn xe) W' body ts fb)
    (hh : HdF X W (h0 :: hds) l fh) : PSF X W (.Try body (h0 :: hds) [] [] pos) (fun D σ H => tBody X body (wHds X.K W D l) D σ H) (fTry fb fh) := by
  refine ⟨ps_try_hds (tb := tBody X body) hs hf tk (fun W' pn xe t p => ⟨fun pins s σ H D I h => ?_⟩) hh.ok, ?_⟩
  · obtain ⟨ts, q, h⟩ := h pn xe t p
    exact q.run pins s σ H D I h
  intro H0 F0 D env σ tm H hw h k pn xe t p
  obtain ⟨ts, q⟩ := hb _ pn xe t p
  refine ⟨ts, q.p, q.s H0 F0 D env σ tm H hw h ?_⟩
  unfold fTry at k
  cases e : fb env with
  | ex e' x fs => rw [e] at k; exact fun cls d σ' H' h' => hh.s H0 F0 D e' σ' tm H' x fs cls d hw h' k
  | nx e' => rw [e] at k; exact k
  | rt m => rw [e] at k; exact k
  | bk e' => rw [e] at k; exact k
  | ct e' => rw [e] at k; exact k
  | bad => rw [e] at k; exact k
/-! ### the clauses -/
theorem hd_nil : HdF X W [] [] (fun env x fs => .ex env x fs) := ⟨.nil, fun H0 F0 D env σ tm H x fs cls d hw h k => k cls d σ H h⟩
/-- what comes out of a suite where nothing is raised -/
def calmO : Out → Out
  | .ex _ _ _ => .bad
  | o => o
/-- except C: suite -/
def fHd (t : Tb) (C : Str) (fsu : NW.Env → Out) (r : NW.Env → Str → List (Str × NW.D) → Out) : NW.Env → Str → List (Str × NW.D) → Out := fun env x fs => match t.x x C with
  | some true => calmO (fsu env)
  | some false => r env x fs
  | none => .bad
/-- the slot i forgotten -/
def outI (i : Nat) : Out → Out
  | .nx e => .nx (e.set i none)
  | .bk e => .bk (e.set i none)
  | .ct e => .ct (e.set i none)
  | .ex _ _ _ => .bad
  | o => o
/-- except C as n: suite -/
def fHdAs (t : Tb) (C : Str) (i : Nat) (fsu : NW.Env → Out) (r : NW.Env → Str → List (Str × NW.D) → Out) : NW.Env → Str → List (Str × NW.D) → Out := fun env x fs => match t.x x C with
  | some true => outI i (fsu (env.set i (some (.im (.exc x fs)))))
  | some false => r env x fs
  | none => .bad
section
variable {K : PySem.W.Frag} {H0 F0 H : Hp} {env : NW.Env} {σ : L2.St} {tm : Tm} {i : Nat} {x : Str} {fs : List (Str × NW.D)} {cls : Value} {d : Option Addr}
theorem St.unset (h : NW.St K H0 F0 env σ tm H) (i : Nat) : NW.St K H0 F0 (env.set i none) (σ.set i none) tm H := by
  obtain ⟨F, lab, y⟩ := h
  refine ⟨F, lab, { y with len := by simpa using y.len, slot := fun j m e => ?_ }⟩
  rw [List.getElem?_set] at e ⊢
  split at e
  · split at e
    · exact nomatch e
    · exact nomatch e
  · rename_i hij
    obtain ⟨v, h1, h2⟩ := y.slot j m e
    exact ⟨v, by rw [if_neg hij]; exact h1, h2⟩
theorem StX.hold {a : Addr} {oe : Obj} {vs : Array Value} (h : StX K H0 F0 env σ tm H x fs cls d) (ha : H a = none) (h1 : oe.cls = cls) (h2 : oe.dict = d) (h3 : oe.data = .fields vs) :
    NW.St K H0 F0 (env.set i (some (.im (.exc x fs)))) (σ.set i (some (.ref a))) tm (upd H a (.frz oe (.own a))) := by
  obtain ⟨F, lab, y, hc, hd⟩ := h
  have ne : ∀ {b : Addr} {o : HO}, H b = some o → b ≠ a := fun e z => by rw [z, ha] at e; exact nomatch e
  have fa : F a = none := by
    cases q : F a with
    | none => rfl
    | some o => have := y.fe a o q; rw [ha] at this; exact nomatch this
  have h0a : H0 a = none := by
    cases q : H0 a with
    | none => rfl
    | some o => have := y.e0 a o q; rw [ha] at this; exact nomatch this
  have upH : Ex H (upd H a (.frz oe (.own a))) := fun b o e => by rw [upd_ne (ne e)]; exact e
  have upF : Ex F (upd F a (.frz oe (.own a))) := fun b o e => by rw [upd_ne (ne (y.fe b o e))]; exact e
  refine ⟨upd F a (.frz oe (.own a)), lab, y.e0.trans upH, y.f0.trans upF, fun b o e => ?_, fun b o e => ?_, fun b L e => ?_, by simpa using y.len, fun j m e => ?_, fun j c v e => ?_⟩
  · by_cases z : b = a
    · subst z; rw [upd_same] at e ⊢; exact e
    · rw [upd_ne z] at e ⊢; exact y.fe b o e
  · by_cases z : b = a
    · subst z; exact .inr h0a
    · rw [upd_ne z] at e; exact y.new b o e
  · obtain ⟨q1, q2, o, q3⟩ := y.own b L e
    exact ⟨by rw [upd_ne (ne q3)]; exact q1, q2, o, upH b o q3⟩
  · rw [List.getElem?_set] at e ⊢
    split at e
    · rename_i hij
      split at e
      · rename_i hl
        simp only [Option.some.injEq] at e
        subst e
        refine ⟨.ref a, by rw [if_pos hij, if_pos (by rw [← y.len]; exact hl)], .im ?_⟩
        rcases hd with ⟨rfl, rfl⟩ | ⟨dx, fvs, rfl, q1, q2⟩
        · exact .exc upd_same (h1.trans hc) h3 h2
        · exact .exd upd_same (h1.trans hc) h3 h2 (upF _ _ q1) (RepF.mono upF q2)
      · exact nomatch e
    · rename_i hij
      obtain ⟨v, q1, q2⟩ := y.slot j m e
      exact ⟨v, by rw [if_neg hij]; exact q1, q2.keep upF (fun b o _ e => upH b o e) (fun _ _ _ _ h _ => h)⟩
  · have r := y.tmp j c v e
    cases c with
    | own m => exact RM.keep r upF (fun b o _ e => upH b o e) (fun _ _ _ _ h _ => h)
    | vw m => exact RM.keep r upF (fun b o _ e => upH b o e) (fun _ _ _ _ h _ => h)
end
theorem calm_good {K : PySem.W.Frag} {H0 F0 : Hp} {D : Ends} {tm : Tm} {o : Out} (k : GoodS K W H0 F0 D tm (calmO o)) : GoodS K W0 H0 F0 D tm o := by
  cases o with
  | ex e x fs => exact False.elim k
  | nx e => exact k
  | rt m => exact k
  | bk e => exact k
  | ct e => exact k
  | bad => exact k
theorem out_good {K : PySem.W.Frag} {H0 F0 : Hp} {D : Ends} {tm : Tm} {i : Nat} {o : Out} (k : GoodS K W H0 F0 D tm (outI i o)) : GoodS K W0 H0 F0 (endsOf i D) tm o := by
  cases o with
  | ex e x fs => exact False.elim k
  | nx e => exact fun σ H h => k _ H (h.unset i)
  | rt m => exact k
  | bk e => exact fun σ H h => k _ H (h.unset i)
  | ct e => exact fun σ H h => k _ H (h.unset i)
  | bad => exact k
section
variable {t : Tb} {C n : Str} {i : Nat} {b0 : Stmt} {su : List Stmt} {np ps : Pos} {hs : List ExceptHandler} {l : List Hd} {fsu : NW.Env → Out} {fr : NW.Env → Str → List (Str × NW.D) → Out}
theorem names_of (hg : Gl X C) (hm : X.mg C = some (.ref (He.ga X.K C))) (hd : (C == ("__debug__" : Str)) = false := by decide) : Names X C (.ref (He.ga X.K C)) := ⟨hg, hd, .inl hm⟩
theorem suite_p {a : Addr} {pn : List (Addr × Obj)} {sts : List Stmt} : PSs (X.suite a pn) sts (tSuite X sts) := ⟨fun pins s σ H D I h => by
  obtain ⟨ts, q, h⟩ := h a pn
  exact q.run pins s σ H D I h⟩
theorem suite_s {sts : List Stmt} {H0 F0 H : Hp} {D : Ends} {env : NW.Env} {σ : L2.St} {tm : Tm} (hsu : ∀ (a : Addr) (pn : List (Addr × Obj)), ∃ ts, PBF (X.suite a pn) W0 sts ts fsu) (hw : Owns tm) (h : NW.St X.K H0 F0 env σ tm H) (k : GoodS X.K W0 H0 F0 D tm (fsu env)) : tSuite X sts D σ H := fun a pn => by
  obtain ⟨ts, q⟩ := hsu a pn
  exact ⟨ts, q.p, q.s H0 F0 D env σ tm H hw h k⟩
theorem hd_only (T : Tab X.K t) (hc : Names X C (.ref (He.ga X.K C))) (hsu : ∀ (a : Addr) (pn : List (Addr × Obj)), ∃ ts, PBF (X.suite a pn) W0 (b0 :: su) ts fsu) (r : HdF X W hs l fr) :
    HdF X W (.ExceptHandler (some (.Name C np)) none (b0 :: su) ps :: hs) (⟨.ref (He.ga X.K C), none, tSuite X (b0 :: su)⟩ :: l) (fHd t C fsu fr) := by
  refine ⟨.only hc (fun a pn => suite_p) r.ok, fun H0 F0 D env σ tm H x fs cls d hw h k => ?_⟩
  unfold fHd at k
  obtain ⟨F, lab, y, hcl, hd⟩ := id h
  split at k
  · rename_i e
    exact ⟨true, by rw [hcl]; exact T.x e, fun _ => suite_s hsu hw h.st (calm_good k), fun z => nomatch z⟩
  · rename_i e
    exact ⟨false, by rw [hcl]; exact T.x e, (fun z => nomatch z), fun _ => r.s H0 F0 D env σ tm H x fs cls d hw h k⟩
  · exact False.elim k
theorem hd_as (T : Tab X.K t) (hN : X.N.Nodup) (hi : X.N[i]? = some n) (hl : X.env.kindOf n = some .local) (hc : Names X C (.ref (He.ga X.K C))) (hsu : ∀ (a : Addr) (pn : List (Addr × Obj)), ∃ ts, PBF (X.suite a pn) W0 (b0 :: su) ts fsu) (r : HdF X W hs l fr) :
    HdF X W (.ExceptHandler (some (.Name C np)) (some n) (b0 :: su) ps :: hs) (⟨.ref (He.ga X.K C), some i, tSuite X (b0 :: su)⟩ :: l) (fHdAs t C i fsu fr) := by
  refine ⟨.as hN hi hl hc (fun a pn => suite_p) r.ok, fun H0 F0 D env σ tm H x fs cls d hw h k => ?_⟩
  unfold fHdAs at k
  obtain ⟨F, lab, y, hcl, hd⟩ := id h
  split at k
  · rename_i e
    exact ⟨true, by rw [hcl]; exact T.x e, fun _ a oe vs ha h1 h2 h3 => suite_s hsu hw (h.hold ha h1 h2 h3) (out_good k), fun z => nomatch z⟩
  · rename_i e
    exact ⟨false, by rw [hcl]; exact T.x e, (fun z => nomatch z), fun _ => r.s H0 F0 D env σ tm H x fs cls d hw h k⟩
  · exact False.elim k
end
end
end NW
set_option Elab.async false
set_option linter.all false
set_option maxRecDepth 100000
set_option maxHeartbeats 4000000
/-! the tables as lists, checked by one Bool; what a law's head tells. -/
namespace NW
open PySem PySem.Spec PyProof.Rows L2
structure TbL where
  eb : List (Str × String × Bool) := []
  eo : List (Str × Str × Bool) := []
  ob : List (Str × String × Bool) := []
  oo : List (Str × Str × Bool) := []
  bo : List (String × Str × Bool) := []
  ff : List (Str × Str) := []
  gg : List (Str × Str) := []
  xx : List (Str × Str × Bool) := []
def look2 {α β : Type} [BEq α] [BEq β] (a : α) (b : β) : List (α × β × Bool) → Option Bool
  | [] => none
  | (x, y, r) :: l => if (x == a && y == b) = true then some r else look2 a b l
def has2 {α β : Type} [BEq α] [BEq β] (a : α) (b : β) (l : List (α × β)) : Bool := l.any fun q => q.1 == a && q.2 == b
def TbL.tb (l : TbL) : Tb where
  o := fun x c => match c with
    | .b T => look2 x T l.ob
    | .o C => look2 x C l.oo
  e := fun x c => match c with
    | .b T => look2 x T l.eb
    | .o C => look2 x C l.eo
  b := fun T C => look2 T C l.bo
  f := fun x f => has2 x f l.ff
  g := fun x f => has2 x f l.gg
  x := fun x C => look2 x C l.xx
def TbL.ok (l : TbL) (K : PySem.W.Frag) : Bool :=
  (l.ob.all fun q => insIB K q.1 && decide (PySem.W.kitOne K (.ref (He.ga K q.1)) (.type q.2.1) = some q.2.2))
  && ((l.oo.all fun q => insIB K q.1 && decide (PySem.W.kitOne K (.ref (He.ga K q.1)) (.ref (He.ga K q.2.1)) = some q.2.2))
  && ((l.eb.all fun q => excIB K (He.ga K q.1) && decide (PySem.W.kitOne K (.ref (He.ga K q.1)) (.type q.2.1) = some q.2.2))
  && ((l.eo.all fun q => excIB K (He.ga K q.1) && decide (PySem.W.kitOne K (.ref (He.ga K q.1)) (.ref (He.ga K q.2.1)) = some q.2.2))
  && ((l.bo.all fun q => decide (PySem.W.kitOne K (.type q.1) (.ref (He.ga K q.2.1)) = some q.2.2))
  && ((l.ff.all fun q => excIB K (He.ga K q.1) && decide (PySem.W.findIn K (.ref (He.ga K q.1)) q.2 = some none))
  && ((l.gg.all fun q => insIB K q.1 && decide (PySem.W.findIn K (.ref (He.ga K q.1)) q.2 = some none))
  && (l.xx.all fun q => decide (PySem.W.exmOne K (.ref (He.ga K q.1)) (.ref (He.ga K q.2.1)) = some q.2.2))))))))
theorem look2_mem {α β : Type} [BEq α] [BEq β] [LawfulBEq α] [LawfulBEq β] {a : α} {b : β} {r : Bool} : ∀ {l : List (α × β × Bool)}, look2 a b l = some r → (a, b, r) ∈ l
  | [], h => nomatch h
  | (x, y, q) :: l, h => by
    unfold look2 at h
    split at h
    · rename_i c
      rw [Bool.and_eq_true, beq_iff_eq, beq_iff_eq] at c
      cases h
      obtain ⟨rfl, rfl⟩ := c
      exact List.mem_cons_self
    · exact List.mem_cons_of_mem _ (look2_mem h)
theorem has2_mem {α β : Type} [BEq α] [BEq β] [LawfulBEq α] [LawfulBEq β] {a : α} {b : β} {l : List (α × β)} (h : has2 a b l = true) : (a, b) ∈ l := by
  unfold has2 at h
  rw [List.any_eq_true] at h
  obtain ⟨⟨x, y⟩, hm, c⟩ := h
  rw [Bool.and_eq_true, beq_iff_eq, beq_iff_eq] at c
  obtain ⟨rfl, rfl⟩ := c
  exact hm
theorem TbL.tab {l : TbL} {K : PySem.W.Frag} (h : l.ok K = true) : Tab K l.tb := by
  unfold TbL.ok at h
  simp only [Bool.and_eq_true, List.all_eq_true, decide_eq_true_eq] at h
  obtain ⟨h1, h2, h3, h4, h5, h6, h7, h8⟩ := h
  refine ⟨fun {x c r} e => ?_, fun {x c r} e => ?_, fun {T C r} e => h5 _ (look2_mem e), fun {x f} e => ?_, fun {x f} e => ?_, fun {x C r} e => h8 _ (look2_mem e)⟩
  · cases c with
    | b T => have := h1 _ (look2_mem e); exact ⟨insIB_ok this.1, this.2⟩
    | o C => have := h2 _ (look2_mem e); exact ⟨insIB_ok this.1, this.2⟩
  · cases c with
    | b T => have := h3 _ (look2_mem e); exact ⟨excIB_ok this.1, this.2⟩
    | o C => have := h4 _ (look2_mem e); exact ⟨excIB_ok this.1, this.2⟩
  · have := h6 _ (has2_mem e); exact ⟨excIB_ok this.1, this.2⟩
  · have := h7 _ (has2_mem e); exact ⟨insIB_ok this.1, this.2⟩
/-- names of the text that stand for a built-in function -/
def glbB (l : List (Str × String)) (K : PySem.W.Frag) : Bool := l.all fun q => decide (PySem.W.nsIn K mainGlobals q.1 = some (some (.builtin q.2)))
theorem glbB_ok {l : List (Str × String)} {K : PySem.W.Frag} {h : Heap} {mg : Str → Option Value} (X : K.In h) (G : h.Ns mainGlobals mg) (c : glbB l K = true) {x : Str} {b : String} (m : (x, b) ∈ l) : mg x = some (.builtin b) :=
  PySem.W.mg_of X G (of_decide_eq_true (List.all_eq_true.mp c _ m))
/-! ### the law's own promise -/
theorem calm0 {P : Program} {w : World} {K : PySem.W.Frag} {mg : Str → Option Value} {base : Heap} {k : Nat} {f : Addr} {fd : FuncData} {ps : List Str} {sp : Sp} (F : FnOk P w K mg base (L2.CX P w) k f fd ps sp) :
    FnOk P w K mg base L2.CX0 k f fd ps (fun vs H Q _ => sp vs H Q E00) := by
  refine ⟨fun vs H Q E h => F.len _ _ _ _ h, fun A outer s H args us vs Q E hr e0 b r h => ?_⟩
  refine codeAny_mono (F.run A outer s H args us vs Q E00 hr e0 b r h) fun r s' hq => ?_
  cases r with
  | error e =>
    obtain ⟨_, _, _, _, _, _, _, _, _, _, _, _, z⟩ := hq
    exact z.elim
  | ok fl => cases fl <;> exact hq
theorem law_sp {K : PySem.W.Frag} {fn : List NW.D → R M} {H : Hp} {a : Addr} {ns : List Int} (h : fn [.fz ns] = .ok (.im (.bl true))) (hS : SqL K H a (ns.map V.int)) : Prom K [true] fn [.ref a] H (fun v _ => v = .bl true) E00 := by
  refine ⟨[.fz ns], H, Evl.Ex.refl _, .shr (.fz hS) .nil, ?_⟩
  rw [h]
  rintro v H' ⟨_, _, F, lab, _, _, _, _, r⟩
  cases r with
  | im r => cases r; rfl
end NW
set_option Elab.async false
set_option linter.all false
set_option maxRecDepth 100000
set_option maxHeartbeats 4000000
namespace NW
open PySem L2

/-! ### reckoning with the functions -/
theorem toDs_map (ms : List M) : M.toDs ms = ms.map M.toD := by
  induction ms with
  | nil => rw [M.toDs]; rfl
  | cons m ms ih => rw [M.toDs, ih]; rfl
theorem pures_all (ms : List M) : M.pures ms = ms.all M.pure := by
  induction ms with
  | nil => rw [M.pures]; rfl
  | cons m ms ih => rw [M.pures, ih]; rfl
/-- ints, as a list of its own; as data -/
def li (ns : List Int) : M := .lst (ns.map fun n => .im (.int n))
def dl (ns : List Int) : D := .lst (ns.map .int)
/-- a list of data of its own -/
def ld (ds : List D) : M := .lst (ds.map .im)
theorem all_im (ds : List D) : (ds.map M.im).all M.pure = true := by
  induction ds with
  | nil => rfl
  | cons d ds ih => rw [List.map_cons, List.all_cons, ih]; rfl
theorem all_leaf (ds : List D) : (ds.map M.im).all leaf = true := by
  induction ds with
  | nil => rfl
  | cons d ds ih => rw [List.map_cons, List.all_cons, ih]; rfl
theorem ld_pure (ds : List D) : (ld ds).pure = true := by unfold ld; rw [M.pure, pures_all]; exact all_im ds
theorem ld_toD (ds : List D) : (ld ds).toD = .lst ds := by
  unfold ld
  rw [M.toD, toDs_map, List.map_map]
  congr 1
  induction ds with
  | nil => rfl
  | cons d ds ih => rw [List.map_cons, ih]; rfl
theorem li_ld (ns : List Int) : li ns = ld (ns.map .int) := by unfold li ld; rw [List.map_map]; rfl
theorem li_pure (ns : List Int) : (li ns).pure = true := by rw [li_ld]; exact ld_pure _
theorem li_toD (ns : List Int) : (li ns).toD = dl ns := by rw [li_ld, ld_toD]; rfl
theorem pures_ints (ns : List Int) : M.pures (ns.map fun n => .im (.int n)) = true := by
  have := li_pure ns
  unfold li at this; rw [M.pure] at this; exact this
theorem toDs_ints (ns : List Int) : M.toDs (ns.map fun n => .im (.int n)) = ns.map .int := by
  have := li_toD ns
  unfold li dl at this; rw [M.toD] at this; exact D.lst.inj this
theorem pures_ims (ds : List D) : M.pures (ds.map .im) = true := by rw [pures_all]; exact all_im ds
theorem toDs_ims (ds : List D) : M.toDs (ds.map .im) = ds := by
  have := ld_toD ds
  unfold ld at this; rw [M.toD] at this; exact D.lst.inj this
/-- what stands at a place -/
theorem atI_map {α β : Type} (f : α → β) (l : List α) (i : Int) : atI (l.map f) i = (atI l i).map f := by
  unfold atI
  rw [List.length_map]
  cases ixN l.length i with
  | none => rfl
  | some j => show (l.map f)[j]? = (l[j]?).map f; rw [List.getElem?_map]
theorem atI_ge {α : Type} {l : List α} {i : Int} (h0 : 0 ≤ i) : atI l i = l[i.toNat]? := by
  unfold atI ixN
  rw [if_pos h0]
  split
  · rfl
  · rw [List.getElem?_eq_none (by omega)]; rfl
theorem items_dl (ns : List Int) : (M.im (dl ns)).items = some (true, ns.map fun n => .im (.int n)) := by
  show some (true, (ns.map D.int).map M.im) = _
  rw [List.map_map]; rfl
/-- a place of a list of ints -/
theorem ix_dl {ns : List Int} {i : Int} (h0 : 0 ≤ i) (h : i < ns.length) : gIx (.own (.im (dl ns))) (.own (.im (.int i))) = okI (ns.getD i.toNat 0) := by
  unfold gIx
  simp only [Cl.m, Cl.toD, M.toD, items_dl]
  rw [atI_map, atI_ge h0, List.getElem?_eq_getElem (by omega)]
  simp only [Option.map_some]
  unfold okI view
  rw [List.getD_eq_getElem?_getD, List.getElem?_eq_getElem (by omega)]; rfl
theorem ix_fz {ns : List Int} {i : Int} (h0 : 0 ≤ i) (h : i < ns.length) : gIx (.own (.im (.fz ns))) (.own (.im (.int i))) = okI (ns.getD i.toNat 0) := by
  unfold gIx
  simp only [Cl.m, Cl.toD, M.toD, M.items]
  rw [atI_map, atI_ge h0, List.getElem?_eq_getElem (by omega)]
  simp only [Option.map_some]
  unfold okI view
  rw [List.getD_eq_getElem?_getD, List.getElem?_eq_getElem (by omega)]; rfl
/-! == of ints -/
theorem deq_int (i j : Int) : deq (.int i) (.int j) = some (decide (i = j)) := by
  unfold deq
  simp only [D.py]
  have : (SeqAt.shaped (.int i) && SeqAt.shaped (.int j)) = true := by
    unfold SeqAt.shaped
    simp [PyData.canLay0, PyData.depth]
  rw [if_pos this]
  rw [PyData.eqv]
  rfl
theorem eq_int (i j : Int) : gEq false (.own (.im (.int i))) (.own (.im (.int j))) = okB (decide (i = j)) := by
  unfold gEq; simp only [Cl.toD, Cl.m, M.toD, deq_int]; rfl
theorem ne_int (i j : Int) : gEq true (.own (.im (.int i))) (.own (.im (.int j))) = okB (!decide (i = j)) := by
  unfold gEq; simp only [Cl.toD, Cl.m, M.toD, deq_int]; rfl
/-! a for, as a fold: every turn leads from a state of ours to a state of ours -/
theorem loop_fold {α β : Type} {g : M → Env → Option Env} {fb : Env → Out} (it : β → M) (E : α → Env) (step : α → β → α) (P : α → Prop) (xs : List β) (hl : ∀ x ∈ xs, leaf (it x) = true)
    (hP : ∀ a x, x ∈ xs → P a → P (step a x)) (h : ∀ a x, x ∈ xs → P a → ∃ e1, g (it x) (E a) = some e1 ∧ (fb e1 = .nx (E (step a x)) ∨ fb e1 = .ct (E (step a x)))) (a : α) (ha : P a) : loop g fb (xs.map it) (E a) = .nx (E (xs.foldl step a)) := by
  induction xs generalizing a with
  | nil => rfl
  | cons x xs ih =>
    obtain ⟨e1, h1, h2⟩ := h a x (List.mem_cons_self) ha
    rw [List.map_cons, loop, if_pos (hl x List.mem_cons_self), h1]
    have ih' := ih (fun y hy => hl y (List.mem_cons_of_mem _ hy)) (fun b y hy => hP b y (List.mem_cons_of_mem _ hy)) (fun b y hy => h b y (List.mem_cons_of_mem _ hy)) (step a x) (hP a x List.mem_cons_self ha)
    rcases h2 with h2 | h2
    · simp only [h2]; exact ih'
    · simp only [h2]; exact ih'
/-- the same with the turn's number -/
theorem loop_foldI {α β : Type} {g : M → Env → Option Env} {fb : Env → Out} (it : β → M) (E : α → Env) (step : α → β → α) (P : Nat → α → Prop) (xs : List β) (hl : ∀ x ∈ xs, leaf (it x) = true) (n : Nat)
    (h : ∀ i a x, xs[i]? = some x → P (n + i) a → P (n + i + 1) (step a x) ∧ ∃ e1, g (it x) (E a) = some e1 ∧ (fb e1 = .nx (E (step a x)) ∨ fb e1 = .ct (E (step a x)))) (a : α) (ha : P n a) : loop g fb (xs.map it) (E a) = .nx (E (xs.foldl step a)) := by
  induction xs generalizing a n with
  | nil => rfl
  | cons x xs ih =>
    obtain ⟨hp, e1, h1, h2⟩ := h 0 a x rfl ha
    rw [List.map_cons, loop, if_pos (hl x List.mem_cons_self), h1]
    have ih' := ih (fun y hy => hl y (List.mem_cons_of_mem _ hy)) (n + 1) (fun i b y hy hb => by
      have := h (i + 1) b y (by simpa using hy)
      rw [show n + (i + 1) = n + 1 + i by omega] at this
      exact this hb) (step a x) hp
    rcases h2 with h2 | h2
    · simp only [h2]; exact ih'
    · simp only [h2]; exact ih'
/-- a for over range(lo, ..), as a fold over the turns' numbers -/
theorem loop_range {α : Type} {g : M → Env → Option Env} {fb : Env → Out} (E : α → Env) (step : α → Nat → α) (P : Nat → α → Prop) (lo : Int) (n : Nat)
    (h : ∀ i a, i < n → P i a → P (i + 1) (step a i) ∧ ∃ e1, g (.im (.int (lo + (i : Int)))) (E a) = some e1 ∧ (fb e1 = .nx (E (step a i)) ∨ fb e1 = .ct (E (step a i)))) (a : α) (ha : P 0 a) : loop g fb (rgItems lo n) (E a) = .nx (E ((List.range n).foldl step a)) := by
  refine loop_foldI (it := fun (i : Nat) => .im (.int (lo + (i : Int)))) E step P (List.range n) (fun _ _ => rfl) 0 (fun i a x hx hp => ?_) a ha
  have hi := (List.getElem?_eq_some_iff.mp hx).1
  rw [List.length_range] at hi
  rw [List.getElem?_range hi] at hx
  cases hx
  rw [Nat.zero_add] at hp ⊢
  exact h i a hi hp
/-- kinds of built-in types -/
theorem kit_ii : kitB "int" "int" = some true := by decide +kernel
theorem kit_ib : kitB "int" "bool" = some false := by decide +kernel
theorem kit_bb : kitB "bool" "bool" = some true := by decide +kernel
theorem kit_bi : kitB "bool" "int" = some true := by decide +kernel
theorem kit_tt : kitB "tuple" "tuple" = some true := by decide +kernel
theorem kit_it : kitB "int" "tuple" = some false := by decide +kernel
/-! stepwise: what comes behind is not opened before it is reached -/
def seqO (o : Out) (g : Env → Out) : Out := match o with
  | .nx e => g e
  | o => o
def aftO (i : Nat) (o : Out) : Out := match o with
  | .nx e => .nx (frz1 i e)
  | o => o
section
variable {f g : Env → Out} {env e : Env} {m : M} {x : Str} {fs : List (Str × D)} {i : Nat} {c : Prop} [Decidable c] {a b : Out} {α : Type} {r r' : R α} {k : α → Out}
theorem fSeq_eq : fSeq f g env = seqO (f env) g := rfl
theorem seqO_nx : seqO (.nx e) g = g e := rfl
theorem seqO_rt : seqO (.rt m) g = .rt m := rfl
theorem seqO_bk : seqO (.bk e) g = .bk e := rfl
theorem seqO_ct : seqO (.ct e) g = .ct e := rfl
theorem seqO_ex : seqO (.ex e x fs) g = .ex e x fs := rfl
theorem seqO_bad : seqO .bad g = .bad := rfl
theorem seqO_ite : seqO (if c then a else b) g = if c then seqO a g else seqO b g := by split <;> rfl
theorem fAft_eq : fAft i f env = aftO i (f env) := rfl
theorem aftO_nx : aftO i (.nx e) = .nx (frz1 i e) := rfl
theorem aftO_rt : aftO i (.rt m) = .rt m := rfl
theorem aftO_ex : aftO i (.ex e x fs) = .ex e x fs := rfl
theorem aftO_bad : aftO i .bad = .bad := rfl
theorem aftO_ite : aftO i (if c then a else b) = if c then aftO i a else aftO i b := by split <;> rfl
theorem endO_ite : endO (if c then a else b) = if c then endO a else endO b := by split <;> rfl
theorem goE_ite : goE env (if c then r else r') k = if c then goE env r k else goE env r' k := by split <;> rfl
theorem endO_nx : endO (.nx e) = .ok (.im .non) := rfl
theorem endO_rt : endO (.rt m) = .ok m := rfl
theorem endO_ex : endO (.ex e x fs) = .ex x fs := rfl
theorem endO_bad : endO .bad = .bad := rfl
end
theorem bind_ite {α β : Type} {c : Prop} [Decidable c] {r r' : R α} {k : α → R β} : (if c then r else r').bind k = if c then r.bind k else r'.bind k := by split <;> rfl
/-- a slot read -/
theorem var_im {env : Env} {i : Nat} {d : D} (h : env[i]? = some (some (.im d))) : fVar i env = .ok (.own (.im d)) := by unfold fVar; rw [h]; rfl
def resC (r : R M) : R Cl := match r with
  | .ok m => .ok (.own m)
  | .ex x fs => .ex x fs
  | .bad => .bad
def callO (o : Option (List D)) (fn : List D → R M) : R Cl := match o with
  | some ds => resC (fn ds)
  | none => .bad
theorem gCall_eq (bs : List Bool) (fn : List D → R M) (cs : List Cl) : gCall bs fn cs = callO (argD bs cs) fn := by
  unfold gCall callO resC
  cases argD bs cs <;> rfl
theorem callO_some (ds : List D) (fn : List D → R M) : callO (some ds) fn = resC (fn ds) := rfl
theorem resC_ok (m : M) : resC (.ok m) = .ok (.own m) := rfl
theorem resC_ex (x : Str) (fs : List (Str × D)) : resC (.ex x fs) = .ex x fs := rfl
theorem resC_bad : resC .bad = .bad := rfl
theorem resC_ite {c : Prop} [Decidable c] {r r' : R M} : resC (if c then r else r') = if c then resC r else resC r' := by split <;> rfl
/-! places of written tuples and lists -/
theorem ix_tup0 (d0 : D) (ds : List D) : gIx (.own (.im (.tup (d0 :: ds)))) (.own (.im (.int 0))) = .ok (.own (.im d0)) := by
  unfold gIx
  simp only [Cl.m, Cl.toD, M.toD, M.items]
  rw [atI_map, atI_ge (by decide)]
  rfl
theorem ix_lst0 (d0 : D) (ds : List D) : gIx (.own (.im (.lst (d0 :: ds)))) (.own (.im (.int 0))) = .ok (.own (.im d0)) := by
  unfold gIx
  simp only [Cl.m, Cl.toD, M.toD, M.items]
  rw [atI_map, atI_ge (by decide)]
  rfl
theorem ix_tup1 (d0 d1 : D) (ds : List D) : gIx (.own (.im (.tup (d0 :: d1 :: ds)))) (.own (.im (.int 1))) = .ok (.own (.im d1)) := by
  unfold gIx
  simp only [Cl.m, Cl.toD, M.toD, M.items]
  rw [atI_map, atI_ge (by decide)]
  rfl
theorem ix_lst1 (d0 d1 : D) (ds : List D) : gIx (.own (.im (.lst (d0 :: d1 :: ds)))) (.own (.im (.int 1))) = .ok (.own (.im d1)) := by
  unfold gIx
  simp only [Cl.m, Cl.toD, M.toD, M.items]
  rw [atI_map, atI_ge (by decide)]
  rfl
theorem ix_tup2 (d0 d1 d2 : D) (ds : List D) : gIx (.own (.im (.tup (d0 :: d1 :: d2 :: ds)))) (.own (.im (.int 2))) = .ok (.own (.im d2)) := by
  unfold gIx
  simp only [Cl.m, Cl.toD, M.toD, M.items]
  rw [atI_map, atI_ge (by decide)]
  rfl
theorem ix_lst2 (d0 d1 d2 : D) (ds : List D) : gIx (.own (.im (.lst (d0 :: d1 :: d2 :: ds)))) (.own (.im (.int 2))) = .ok (.own (.im d2)) := by
  unfold gIx
  simp only [Cl.m, Cl.toD, M.toD, M.items]
  rw [atI_map, atI_ge (by decide)]
  rfl
theorem ix_tup3 (d0 d1 d2 d3 : D) (ds : List D) : gIx (.own (.im (.tup (d0 :: d1 :: d2 :: d3 :: ds)))) (.own (.im (.int 3))) = .ok (.own (.im d3)) := by
  unfold gIx
  simp only [Cl.m, Cl.toD, M.toD, M.items]
  rw [atI_map, atI_ge (by decide)]
  rfl
theorem ix_lst3 (d0 d1 d2 d3 : D) (ds : List D) : gIx (.own (.im (.lst (d0 :: d1 :: d2 :: d3 :: ds)))) (.own (.im (.int 3))) = .ok (.own (.im d3)) := by
  unfold gIx
  simp only [Cl.m, Cl.toD, M.toD, M.items]
  rw [atI_map, atI_ge (by decide)]
  rfl
theorem ix_tup4 (d0 d1 d2 d3 d4 : D) (ds : List D) : gIx (.own (.im (.tup (d0 :: d1 :: d2 :: d3 :: d4 :: ds)))) (.own (.im (.int 4))) = .ok (.own (.im d4)) := by
  unfold gIx
  simp only [Cl.m, Cl.toD, M.toD, M.items]
  rw [atI_map, atI_ge (by decide)]
  rfl
theorem ix_lst4 (d0 d1 d2 d3 d4 : D) (ds : List D) : gIx (.own (.im (.lst (d0 :: d1 :: d2 :: d3 :: d4 :: ds)))) (.own (.im (.int 4))) = .ok (.own (.im d4)) := by
  unfold gIx
  simp only [Cl.m, Cl.toD, M.toD, M.items]
  rw [atI_map, atI_ge (by decide)]
  rfl
/-! ### items of what is seen -/
theorem it_imL (ds : List D) : (M.im (.lst ds)).items = some (true, ds.map .im) := rfl
theorem it_imT (ds : List D) : (M.im (.tup ds)).items = some (false, ds.map .im) := rfl
theorem it_imF (ns : List Int) : (M.im (.fz ns)).items = some (true, ns.map fun n => .im (.int n)) := rfl
theorem it_boL (ds : List D) : (M.bo (.lst ds)).items = some (true, ds.map .bo) := rfl
theorem it_boT (ds : List D) : (M.bo (.tup ds)).items = some (false, ds.map .bo) := rfl
theorem it_boF (ns : List Int) : (M.bo (.fz ns)).items = some (true, ns.map fun n => .im (.int n)) := rfl
theorem it_lst (ms : List M) : (M.lst ms).items = some (true, ms) := rfl
theorem it_tup (ms : List M) : (M.tup ms).items = some (false, ms) := rfl
theorem it_li (ns : List Int) : (li ns).items = some (true, ns.map fun n => .im (.int n)) := rfl
/-! ### slices -/
theorem cut_from {α : Type} (xs : List α) {k : Int} (h : 0 ≤ k) : cutL xs (some k) none = xs.drop k.toNat := by
  obtain ⟨k, rfl⟩ := Int.eq_ofNat_of_zero_le h
  unfold cutL
  rw [HT.sIx_nat, HT.sIx_none, Int.toNat_natCast]
  by_cases q : k ≤ xs.length
  · rw [Nat.min_eq_left q, List.take_of_length_le]; simp
  · rw [Nat.min_eq_right (by omega), List.drop_length, List.drop_eq_nil_of_le (by omega)]; simp
theorem leaf_ims (ns : List Int) : (ns.map fun n => M.im (.int n)).all leaf = true := by
  rw [List.all_map]; simp [leaf]
theorem sl_dl {ns : List Int} {k : Int} (h : 0 ≤ k) : gSl (.own (.im (dl ns))) (some k) none = .ok (.own (li (ns.drop k.toNat))) := by
  unfold gSl
  simp only [Cl.m, items_dl, leaf_ims, if_true, cut_from _ h, ← List.map_drop]; rfl
/-! ### assignments on a condition -/
theorem ite_nx {p : Prop} [Decidable p] {a b : Env} : (if p then Out.nx a else Out.nx b) = Out.nx (if p then a else b) := by split <;> rfl
theorem ite_cc {α : Type} {p : Prop} [Decidable p] {a b : α} {l m : List α} : (if p then a :: l else b :: m) = (if p then a else b) :: (if p then l else m) := by split <;> rfl
theorem ite_same {α : Type} {p : Prop} [Decidable p] {a : α} : (if p then a else a) = a := by split <;> rfl
theorem ite_some {α : Type} {p : Prop} [Decidable p] {a b : α} : (if p then some a else some b) = some (if p then a else b) := by split <;> rfl
theorem ite_im {p : Prop} [Decidable p] {a b : D} : (if p then M.im a else M.im b) = M.im (if p then a else b) := by split <;> rfl
theorem ite_int {p : Prop} [Decidable p] {a b : Int} : (if p then D.int a else D.int b) = D.int (if p then a else b) := by split <;> rfl
/-! ### try -/
def tryO (o : Out) (fh : Env → Str → List (Str × D) → Out) : Out := match o with
  | .ex e x fs => fh e x fs
  | o => o
theorem fTry_eq (fb : Env → Out) (fh : Env → Str → List (Str × D) → Out) (env : Env) : fTry fb fh env = tryO (fb env) fh := rfl
theorem tryO_nx (e : Env) (fh : Env → Str → List (Str × D) → Out) : tryO (.nx e) fh = .nx e := rfl
theorem tryO_rt (m : M) (fh : Env → Str → List (Str × D) → Out) : tryO (.rt m) fh = .rt m := rfl
theorem tryO_bk (e : Env) (fh : Env → Str → List (Str × D) → Out) : tryO (.bk e) fh = .bk e := rfl
theorem tryO_ct (e : Env) (fh : Env → Str → List (Str × D) → Out) : tryO (.ct e) fh = .ct e := rfl
theorem tryO_ex (e : Env) (x : Str) (fs : List (Str × D)) (fh : Env → Str → List (Str × D) → Out) : tryO (.ex e x fs) fh = fh e x fs := rfl
theorem tryO_ite {p : Prop} [Decidable p] (a b : Out) (fh : Env → Str → List (Str × D) → Out) : tryO (if p then a else b) fh = if p then tryO a fh else tryO b fh := by split <;> rfl
theorem calmO_ite {p : Prop} [Decidable p] (a b : Out) : calmO (if p then a else b) = if p then calmO a else calmO b := by split <;> rfl
theorem outI_ite {p : Prop} [Decidable p] (i : Nat) (a b : Out) : outI i (if p then a else b) = if p then outI i a else outI i b := by split <;> rfl
theorem isQ_exc (t : Tb) (c : Cn) (x : Str) (fs : List (Str × D)) : isQ t c (.exc x fs) = t.e x c := rfl
theorem isQ_obj (t : Tb) (c : Cn) (x : Str) (fs : List (Str × D)) : isQ t c (.obj x fs) = t.o x c := rfl
theorem fl_imE (x : Str) (fs : List (Str × D)) : (M.im (.exc x fs)).flds = some (true, x, imF fs) := rfl
theorem fl_boE (x : Str) (fs : List (Str × D)) : (M.bo (.exc x fs)).flds = some (true, x, boF fs) := rfl
theorem fl_imO (x : Str) (fs : List (Str × D)) : (M.im (.obj x fs)).flds = some (false, x, imF fs) := rfl
theorem fl_boO (x : Str) (fs : List (Str × D)) : (M.bo (.obj x fs)).flds = some (false, x, boF fs) := rfl
theorem fl_obj (x : Str) (ms : List (Str × M)) : (M.obj x ms).flds = some (false, x, ms) := rfl
theorem fg_t (t : Tb) (x f : Str) : t.fg x f true = t.f x f := rfl
theorem fg_f (t : Tb) (x f : Str) : t.fg x f false = t.g x f := rfl
end NW
set_option Elab.async false
set_option linter.all false
set_option maxRecDepth 100000
set_option maxHeartbeats 4000000
namespace K0
open PySem L2 NW
/-- below 2 ^ k in size -/
def Bd (k : Nat) (a : Int) : Bool := decide (a.natAbs < 2 ^ k)
def gd (a b : Int) : Int := ((Nat.gcd a.natAbs b.natAbs : Nat) : Int)
def fr (a b : Int) : NW.D := .tup [.int a, .int b]
def frN (n d : Int) : Int := if d < 0 then -n / gd n d else n / gd n d
def frD (n d : Int) : Int := if d < 0 then -d / gd n d else d / gd n d
def sp_frac : List NW.D → R M
  | [.int n, .int d] => if d = 0 then .ex "BadFraction" [] else if (Bd 4000 n && Bd 4000 d) = true then .ok (.im (fr (frN n d) (frD n d))) else .bad
  | _ => .bad
def B4 (a b c d : Int) : Bool := Bd 1000 a && (Bd 1000 b && (Bd 1000 c && Bd 1000 d))
def sp_add : List NW.D → R M
  | [.tup [.int a, .int b], .tup [.int c, .int d]] => if B4 a b c d = true then sp_frac [.int (a * d + c * b), .int (b * d)] else .bad
  | _ => .bad
def sp_subtract : List NW.D → R M
  | [.tup [.int a, .int b], .tup [.int c, .int d]] => if B4 a b c d = true then sp_frac [.int (a * d - c * b), .int (b * d)] else .bad
  | _ => .bad
def sp_times : List NW.D → R M
  | [.tup [.int a, .int b], .tup [.int c, .int d]] => if B4 a b c d = true then sp_frac [.int (a * c), .int (b * d)] else .bad
  | _ => .bad
def sp_divide : List NW.D → R M
  | [.tup [.int a, .int b], .tup [.int c, .int d]] => if B4 a b c d = true then sp_frac [.int (a * d), .int (b * c)] else .bad
  | _ => .bad
def ord (x y : Int) : Int := if x < y then -1 else if y < x then 1 else 0
def sp_compare : List NW.D → R M
  | [.tup [.int a, .int b], .tup [.int c, .int d]] => if B4 a b c d = true then .ok (.im (.int (ord (a * d) (c * b)))) else .bad
  | _ => .bad
def sp_greater : List NW.D → R M
  | [.tup [.int a, .int b], .tup [.int c, .int d]] => if B4 a b c d = true then .ok (.im (if a * d < c * b then fr c d else fr a b)) else .bad
  | _ => .bad
def sp__law_is_integer : List NW.D → R M
  | [.int _] => .ok (.im (.bl true))
  | _ => .bad
def cellN (ns : List Int) (k : Int) : Int := if k < ns.length then ns.getD k.toNat 0 else 0
def sp__law_cell : List NW.D → R M
  | [.fz ns, .int k] => if 0 ≤ k then .ok (.im (.int (cellN ns k))) else .bad
  | _ => .bad
@[irreducible] def T18 : Int := 10 ^ 18
@[irreducible] def P29 : Int := 3 * 10 ^ 29
theorem T18_eq : (10 : Int) ^ (18 : Int).toNat = T18 := by unfold T18; rfl
/-- a turn of the drawing of numbers: what is left, the mixed number, those told -/
def numStep (s : Int × Int × List Int) : Int × Int × List Int :=
  if 0 < s.1 then (s.1 / 5040, s.2.1, s.2.2 ++ [s.1 % 5040]) else (s.1, (s.2.1 * 48271 + 69621) % 2147483647, s.2.2 ++ [(s.2.1 * 48271 + 69621) % 2147483647 / 8 % 5040])
def numStart (cell : Int) : Int × Int × List Int := (if (cell.natAbs : Int) < T18 then 0 else (cell.natAbs : Int), ((cell.natAbs : Int) * 48271 + 12345) % 2147483647, [])
def numbers (cell : Int) (many : Nat) : List Int := ((List.range many).foldl (fun s _ => numStep s) (numStart cell)).2.2
def sp__law_numbers : List NW.D → R M
  | [.int c, .int m] => if 0 ≤ m ∧ m ≤ 1000 then .ok (li (numbers c m.toNat)) else .bad
  | _ => .bad
def largeN (cell most : Int) : Int := if T18 ≤ (cell.natAbs : Int) then (cell.natAbs : Int) % (most + 1) else
  ((List.range ((numbers cell 18).getD 0 0 % 18).toNat).foldl (fun t k => t * 5040 + (numbers cell 18).getD (k + 1) 0) 0) % (most + 1)
def sp__law_large : List NW.D → R M
  | [.int c, .int m] => if 0 ≤ m then .ok (.im (.int (largeN c m))) else .bad
  | _ => .bad
def sp__law_common : List NW.D → R M
  | [.int a, .int b] => if (Bd 299 a && Bd 299 b) = true then .ok (.im (.int (gd a b))) else .bad
  | _ => .bad
def sp__law_lowest : List NW.D → R M
  | [.int n, .int d] => if (Bd 299 n && Bd 299 d) = true ∧ 0 < d then .ok (.im (fr (n / gd n d) (d / gd n d))) else .bad
  | _ => .bad
def due (a b n d : Int) : Bool := decide (1 ≤ b) && (decide (gd a b = 1) && decide (a * d = n * b))
def sp__law_is_due : List NW.D → R M
  | [.tup [.int a, .int b], .int n, .int d] => if (Bd 299 a && (Bd 299 b && (Bd 1000 n && Bd 1000 d))) = true then .ok (.im (.bl (due a b n d))) else .bad
  | _ => .bad
def lowest (n d : Int) : Int × Int := (n / gd n d, d / gd n d)
def intsD : List NW.D → Option (List Int)
  | [] => some []
  | .int i :: ds => (intsD ds).map (i :: ·)
  | _ :: _ => none
def nearN (ns : List Int) : Int := 1 + ns.getD 0 0 % 9
def second (a b kind : Int) (ns : List Int) (f s : Int) : Int × Int :=
  if kind = 0 then (a, b) else if kind = 1 then (0 - a, b) else if kind = 2 then lowest (a + nearN ns) b else if kind = 3 then lowest a (b + nearN ns)
  else if kind = 4 then lowest (a / b * nearN ns + ns.getD 1 0 % nearN ns) (nearN ns)
  else lowest (if ns.getD 2 0 % 2 = 1 then 0 - (if kind = 5 then 0 else largeN f (P29)) else (if kind = 5 then 0 else largeN f (P29))) (1 + largeN s (P29 - 1))
def pr (p : Int × Int) : NW.D := fr p.1 p.2
def sp__law_second : List NW.D → R M
  | [.tup [.int a, .int b], .int k, .lst xs, .int f, .int s] => (match intsD xs with
    | some ns => if 3 ≤ ns.length ∧ 0 < b ∧ (Bd 100 a && Bd 100 b) = true then .ok (.im (pr (second a b k ns f s))) else .bad
    | none => .bad)
  | _ => .bad
def sp__law_refused : List NW.D → R M
  | [.int w, .int n, .int d] => if w = 0 ∧ (Bd 4000 n && Bd 4000 d) = true then .ok (.im (.bl (decide (d = 0)))) else .bad
  | [.int w, .tup [.int a, .int b], .tup [.int c, .int d]] => if w ≠ 0 ∧ B4 a b c d = true then .ok (.im (.bl (decide (b * c = 0)))) else .bad
  | _ => .bad
/-- a fraction as the law has them -/
def Low (a b : Int) : Bool := decide (1 ≤ b) && (decide (gd a b = 1) && (Bd 120 a && Bd 120 b))
def sp__law_pair_is_told : List NW.D → R M
  | [.tup [.int a, .int b], .tup [.int c, .int d]] => if (Low a b && Low c d) = true then .ok (.im (.bl true)) else .bad
  | _ => .bad
def sp__law_frac_is_told : List NW.D → R M
  | [.int n, .int d] => if 1 ≤ d ∧ (Bd 240 n && Bd 240 d) = true then .ok (.im (.bl true)) else .bad
  | _ => .bad
def sp_law : List NW.D → R M
  | [.fz ns] => if ns.length ≤ 63 then .ok (.im (.bl true)) else .bad
  | _ => .bad
end K0
set_option Elab.async false
set_option linter.all false
set_option maxRecDepth 100000
set_option maxHeartbeats 4000000
namespace K0
open PySem PySem.Spec PyProof.Rows L2 NW
def tbl : NW.TbL := { eb := [("WorseError", "ValueError", true), ("BadFraction", "ValueError", true), ("BadRatio", "ValueError", true)], eo := [("WorseError", "BadRatio", false), ("WorseError", "WorseError", true), ("BadFraction", "BadRatio", false), ("BadFraction", "WorseError", true), ("BadRatio", "BadRatio", true), ("BadRatio", "WorseError", true)], xx := [("WorseError", "BadFraction", false), ("WorseError", "WorseError", true), ("BadFraction", "BadFraction", true), ("BadFraction", "WorseError", true), ("BadRatio", "BadFraction", false), ("BadRatio", "WorseError", true)] }
def tb : NW.Tb := tbl.tb
theorem te_WorseError_ValueError : tb.e "WorseError" (.b "ValueError") = some true := by decide +kernel
theorem te_WorseError_BadRatio : tb.e "WorseError" (.o "BadRatio") = some false := by decide +kernel
theorem te_WorseError_WorseError : tb.e "WorseError" (.o "WorseError") = some true := by decide +kernel
theorem tx_WorseError_BadFraction : tb.x "WorseError" "BadFraction" = some false := by decide +kernel
theorem tx_WorseError_WorseError : tb.x "WorseError" "WorseError" = some true := by decide +kernel
theorem te_BadFraction_ValueError : tb.e "BadFraction" (.b "ValueError") = some true := by decide +kernel
theorem te_BadFraction_BadRatio : tb.e "BadFraction" (.o "BadRatio") = some false := by decide +kernel
theorem te_BadFraction_WorseError : tb.e "BadFraction" (.o "WorseError") = some true := by decide +kernel
theorem tx_BadFraction_BadFraction : tb.x "BadFraction" "BadFraction" = some true := by decide +kernel
theorem tx_BadFraction_WorseError : tb.x "BadFraction" "WorseError" = some true := by decide +kernel
theorem te_BadRatio_ValueError : tb.e "BadRatio" (.b "ValueError") = some true := by decide +kernel
theorem te_BadRatio_BadRatio : tb.e "BadRatio" (.o "BadRatio") = some true := by decide +kernel
theorem te_BadRatio_WorseError : tb.e "BadRatio" (.o "WorseError") = some true := by decide +kernel
theorem tx_BadRatio_BadFraction : tb.x "BadRatio" "BadFraction" = some false := by decide +kernel
theorem tx_BadRatio_WorseError : tb.x "BadRatio" "WorseError" = some true := by decide +kernel
def f_frac : NW.Env → Out := (fSeq (fIfS (fTst (fEq (fVar 1) (fC (.int 0)))) (fRaise "BadFraction") fNext)
    (fSeq (fIfS (fTst (fLt (fVar 1) (fC (.int 0)))) (fSeq (fAsg 0 (fNeg (fVar 0)))
    (fAsg 1 (fNeg (fVar 1)))) fNext)
    (fSeq (fAsg 2 (fCB gGcd (fCons (fVar 0) (fCons (fVar 1) fNil))))
    (fRet (fTup (fCons (fDiv (fVar 0) (fVar 2)) (fCons (fDiv (fVar 1) (fVar 2)) fNil)))))))
def f_add : NW.Env → Out := (fRet (fCB (gCall [true, true] sp_frac) (fCons (fAdd (fMul (fIx (fVar 0) (fC (.int 0))) (fIx (fVar 1) (fC (.int 1)))) (fMul (fIx (fVar 1) (fC (.int 0))) (fIx (fVar 0) (fC (.int 1))))) (fCons (fMul (fIx (fVar 0) (fC (.int 1))) (fIx (fVar 1) (fC (.int 1)))) fNil))))
def F_add (sp_frac : List NW.D → R M) : NW.Env → Out := (fRet (fCB (gCall [true, true] sp_frac) (fCons (fAdd (fMul (fIx (fVar 0) (fC (.int 0))) (fIx (fVar 1) (fC (.int 1)))) (fMul (fIx (fVar 1) (fC (.int 0))) (fIx (fVar 0) (fC (.int 1))))) (fCons (fMul (fIx (fVar 0) (fC (.int 1))) (fIx (fVar 1) (fC (.int 1)))) fNil))))
theorem ff_add : f_add = F_add sp_frac := rfl
def f_subtract : NW.Env → Out := (fRet (fCB (gCall [true, true] sp_frac) (fCons (fSub (fMul (fIx (fVar 0) (fC (.int 0))) (fIx (fVar 1) (fC (.int 1)))) (fMul (fIx (fVar 1) (fC (.int 0))) (fIx (fVar 0) (fC (.int 1))))) (fCons (fMul (fIx (fVar 0) (fC (.int 1))) (fIx (fVar 1) (fC (.int 1)))) fNil))))
def F_subtract (sp_frac : List NW.D → R M) : NW.Env → Out := (fRet (fCB (gCall [true, true] sp_frac) (fCons (fSub (fMul (fIx (fVar 0) (fC (.int 0))) (fIx (fVar 1) (fC (.int 1)))) (fMul (fIx (fVar 1) (fC (.int 0))) (fIx (fVar 0) (fC (.int 1))))) (fCons (fMul (fIx (fVar 0) (fC (.int 1))) (fIx (fVar 1) (fC (.int 1)))) fNil))))
theorem ff_subtract : f_subtract = F_subtract sp_frac := rfl
def f_times : NW.Env → Out := (fRet (fCB (gCall [true, true] sp_frac) (fCons (fMul (fIx (fVar 0) (fC (.int 0))) (fIx (fVar 1) (fC (.int 0)))) (fCons (fMul (fIx (fVar 0) (fC (.int 1))) (fIx (fVar 1) (fC (.int 1)))) fNil))))
def F_times (sp_frac : List NW.D → R M) : NW.Env → Out := (fRet (fCB (gCall [true, true] sp_frac) (fCons (fMul (fIx (fVar 0) (fC (.int 0))) (fIx (fVar 1) (fC (.int 0)))) (fCons (fMul (fIx (fVar 0) (fC (.int 1))) (fIx (fVar 1) (fC (.int 1)))) fNil))))
theorem ff_times : f_times = F_times sp_frac := rfl
def f_divide : NW.Env → Out := (fRet (fCB (gCall [true, true] sp_frac) (fCons (fMul (fIx (fVar 0) (fC (.int 0))) (fIx (fVar 1) (fC (.int 1)))) (fCons (fMul (fIx (fVar 0) (fC (.int 1))) (fIx (fVar 1) (fC (.int 0)))) fNil))))
def F_divide (sp_frac : List NW.D → R M) : NW.Env → Out := (fRet (fCB (gCall [true, true] sp_frac) (fCons (fMul (fIx (fVar 0) (fC (.int 0))) (fIx (fVar 1) (fC (.int 1)))) (fCons (fMul (fIx (fVar 0) (fC (.int 1))) (fIx (fVar 1) (fC (.int 0)))) fNil))))
theorem ff_divide : f_divide = F_divide sp_frac := rfl
def f_compare : NW.Env → Out := (fSeq (fAft 2 (fAsg 2 (fMul (fIx (fVar 0) (fC (.int 0))) (fIx (fVar 1) (fC (.int 1))))))
    (fSeq (fAft 3 (fAsg 3 (fMul (fIx (fVar 1) (fC (.int 0))) (fIx (fVar 0) (fC (.int 1))))))
    (fSeq (fIfS (fTst (fLt (fVar 2) (fVar 3))) (fRet (fNeg (fC (.int 1)))) fNext)
    (fSeq (fIfS (fTst (fGt (fVar 2) (fVar 3))) (fRet (fC (.int 1))) fNext)
    (fRet (fC (.int 0)))))))
def f_greater : NW.Env → Out := (fSeq (fIfS (fTst (fLt (fCB (gCall [true, true] sp_compare) (fCons (fVar 0) (fCons (fVar 1) fNil))) (fC (.int 0)))) (fRetV 1) fNext)
    (fRetV 0))
def F_greater (sp_compare : List NW.D → R M) : NW.Env → Out := (fSeq (fIfS (fTst (fLt (fCB (gCall [true, true] sp_compare) (fCons (fVar 0) (fCons (fVar 1) fNil))) (fC (.int 0)))) (fRetV 1) fNext)
    (fRetV 0))
theorem ff_greater : f_greater = F_greater sp_compare := rfl
def f__law_is_integer : NW.Env → Out := (fRet (fAndV (fIsT "int" (fVar 0)) (fNotV (fIsT "bool" (fVar 0)))))
def f__law_cell : NW.Env → Out := (fSeq (fIfS (fTst (fLt (fVar 1) (fCB gLen (fCons (fVar 0) fNil)))) (fRet (fCB gInt (fCons (fIx (fVar 0) (fVar 1)) fNil))) fNext)
    (fRet (fC (.int 0))))
def b__law_numbers_0 : NW.Env → Out := (fIfS (fTst (fGt (fVar 2) (fC (.int 0)))) (fSeq (fApp 4 (fMod (fCB gInt (fCons (fVar 2) fNil)) (fC (.int 5040))))
    (fAsg 2 (fDiv (fVar 2) (fC (.int 5040))))) (fSeq (fAsg 3 (fMod (fCB gInt (fCons (fAdd (fMul (fVar 3) (fC (.int 48271))) (fC (.int 69621))) fNil)) (fC (.int 2147483647))))
    (fApp 4 (fMod (fCB gInt (fCons (fDiv (fVar 3) (fC (.int 8))) fNil)) (fC (.int 5040))))))
def f__law_numbers : NW.Env → Out := (fSeq (fAsg 2 (fCB gAbs (fCons (fVar 0) fNil)))
    (fSeq (fAsg 3 (fMod (fCB gInt (fCons (fAdd (fMul (fVar 2) (fC (.int 48271))) (fC (.int 12345))) fNil)) (fC (.int 2147483647))))
    (fSeq (fIfS (fTst (fLt (fVar 2) (fPow (fC (.int 10)) (fC (.int 18))))) (fAsg 2 (fC (.int 0))) fNext)
    (fSeq (fAsg 4 (fLst fNil))
    (fSeq (fFor (iR1 (fVar 1)) (gNm 5) b__law_numbers_0)
    (fRetV 4))))))
def b__law_large_0 : NW.Env → Out := (fAsg 4 (fAdd (fMul (fVar 4) (fC (.int 5040))) (fIx (fVar 3) (fAdd (fVar 5) (fC (.int 1))))))
def f__law_large : NW.Env → Out := (fSeq (fAsg 2 (fCB gAbs (fCons (fVar 0) fNil)))
    (fSeq (fIfS (fTst (fGe (fVar 2) (fPow (fC (.int 10)) (fC (.int 18))))) (fRet (fMod (fCB gInt (fCons (fVar 2) fNil)) (fAdd (fVar 1) (fC (.int 1))))) fNext)
    (fSeq (fAft 3 (fAsg 3 (fCB (gCall [true, true] sp__law_numbers) (fCons (fVar 0) (fCons (fC (.int 18)) fNil)))))
    (fSeq (fAsg 4 (fC (.int 0)))
    (fSeq (fFor (iR1 (fMod (fCB gInt (fCons (fIx (fVar 3) (fC (.int 0))) fNil)) (fC (.int 18)))) (gNm 5) b__law_large_0)
    (fRet (fMod (fCB gInt (fCons (fVar 4) fNil)) (fAdd (fVar 1) (fC (.int 1))))))))))
def F__law_large (sp__law_numbers : List NW.D → R M) : NW.Env → Out := (fSeq (fAsg 2 (fCB gAbs (fCons (fVar 0) fNil)))
    (fSeq (fIfS (fTst (fGe (fVar 2) (fPow (fC (.int 10)) (fC (.int 18))))) (fRet (fMod (fCB gInt (fCons (fVar 2) fNil)) (fAdd (fVar 1) (fC (.int 1))))) fNext)
    (fSeq (fAft 3 (fAsg 3 (fCB (gCall [true, true] sp__law_numbers) (fCons (fVar 0) (fCons (fC (.int 18)) fNil)))))
    (fSeq (fAsg 4 (fC (.int 0)))
    (fSeq (fFor (iR1 (fMod (fCB gInt (fCons (fIx (fVar 3) (fC (.int 0))) fNil)) (fC (.int 18)))) (gNm 5) b__law_large_0)
    (fRet (fMod (fCB gInt (fCons (fVar 4) fNil)) (fAdd (fVar 1) (fC (.int 1))))))))))
theorem ff__law_large : f__law_large = F__law_large sp__law_numbers := rfl
def b__law_common_0 : NW.Env → Out := (fSeq (fIfS (fTst (fEq (fVar 3) (fC (.int 0)))) (fRetV 2) fNext)
    (fSeq (fAsg 5 (fMod (fCB gInt (fCons (fVar 2) fNil)) (fVar 3)))
    (fSeq (fAsg 2 (fVar 3))
    (fAsg 3 (fVar 5)))))
def f__law_common : NW.Env → Out := (fSeq (fAsg 2 (fCB gAbs (fCons (fVar 0) fNil)))
    (fSeq (fAsg 3 (fCB gAbs (fCons (fVar 1) fNil)))
    (fSeq (fFor (iR1 (fC (.int 600))) (gNm 4) b__law_common_0)
    (fRetV 2))))
def f__law_lowest : NW.Env → Out := (fSeq (fAft 2 (fAsg 2 (fCB (gCall [true, true] sp__law_common) (fCons (fVar 0) (fCons (fVar 1) fNil)))))
    (fRet (fTup (fCons (fDiv (fVar 0) (fVar 2)) (fCons (fDiv (fVar 1) (fVar 2)) fNil)))))
def F__law_lowest (sp__law_common : List NW.D → R M) : NW.Env → Out := (fSeq (fAft 2 (fAsg 2 (fCB (gCall [true, true] sp__law_common) (fCons (fVar 0) (fCons (fVar 1) fNil)))))
    (fRet (fTup (fCons (fDiv (fVar 0) (fVar 2)) (fCons (fDiv (fVar 1) (fVar 2)) fNil)))))
theorem ff__law_lowest : f__law_lowest = F__law_lowest sp__law_common := rfl
def f__law_is_due : NW.Env → Out := (fSeq (fIfS (fOr (fNot (fTst (fIsT "tuple" (fVar 0)))) (fTst (fNe (fCB gLen (fCons (fVar 0) fNil)) (fC (.int 2))))) (fRet (fC (.bl false))) fNext)
    (fSeq (fIfS (fOr (fNot (fTst (fCB (gCall [true] sp__law_is_integer) (fCons (fIx (fVar 0) (fC (.int 0))) fNil)))) (fOr (fNot (fTst (fCB (gCall [true] sp__law_is_integer) (fCons (fIx (fVar 0) (fC (.int 1))) fNil)))) (fTst (fLt (fIx (fVar 0) (fC (.int 1))) (fC (.int 1)))))) (fRet (fC (.bl false))) fNext)
    (fRet (fAndV (fEq (fCB (gCall [true, true] sp__law_common) (fCons (fIx (fVar 0) (fC (.int 0))) (fCons (fIx (fVar 0) (fC (.int 1))) fNil))) (fC (.int 1))) (fEq (fMul (fIx (fVar 0) (fC (.int 0))) (fVar 2)) (fMul (fVar 1) (fIx (fVar 0) (fC (.int 1)))))))))
def F__law_is_due (sp__law_is_integer sp__law_common : List NW.D → R M) : NW.Env → Out := (fSeq (fIfS (fOr (fNot (fTst (fIsT "tuple" (fVar 0)))) (fTst (fNe (fCB gLen (fCons (fVar 0) fNil)) (fC (.int 2))))) (fRet (fC (.bl false))) fNext)
    (fSeq (fIfS (fOr (fNot (fTst (fCB (gCall [true] sp__law_is_integer) (fCons (fIx (fVar 0) (fC (.int 0))) fNil)))) (fOr (fNot (fTst (fCB (gCall [true] sp__law_is_integer) (fCons (fIx (fVar 0) (fC (.int 1))) fNil)))) (fTst (fLt (fIx (fVar 0) (fC (.int 1))) (fC (.int 1)))))) (fRet (fC (.bl false))) fNext)
    (fRet (fAndV (fEq (fCB (gCall [true, true] sp__law_common) (fCons (fIx (fVar 0) (fC (.int 0))) (fCons (fIx (fVar 0) (fC (.int 1))) fNil))) (fC (.int 1))) (fEq (fMul (fIx (fVar 0) (fC (.int 0))) (fVar 2)) (fMul (fVar 1) (fIx (fVar 0) (fC (.int 1)))))))))
theorem ff__law_is_due : f__law_is_due = F__law_is_due sp__law_is_integer sp__law_common := rfl
def f__law_second : NW.Env → Out := (fSeq (fAsg 5 (fAdd (fC (.int 1)) (fMod (fCB gInt (fCons (fIx (fVar 2) (fC (.int 0))) fNil)) (fC (.int 9)))))
    (fSeq (fIfS (fTst (fEq (fVar 1) (fC (.int 0)))) (fRetV 0) fNext)
    (fSeq (fIfS (fTst (fEq (fVar 1) (fC (.int 1)))) (fRet (fTup (fCons (fSub (fC (.int 0)) (fIx (fVar 0) (fC (.int 0)))) (fCons (fIx (fVar 0) (fC (.int 1))) fNil)))) fNext)
    (fSeq (fIfS (fTst (fEq (fVar 1) (fC (.int 2)))) (fRet (fCB (gCall [true, true] sp__law_lowest) (fCons (fAdd (fIx (fVar 0) (fC (.int 0))) (fVar 5)) (fCons (fIx (fVar 0) (fC (.int 1))) fNil)))) fNext)
    (fSeq (fIfS (fTst (fEq (fVar 1) (fC (.int 3)))) (fRet (fCB (gCall [true, true] sp__law_lowest) (fCons (fIx (fVar 0) (fC (.int 0))) (fCons (fAdd (fIx (fVar 0) (fC (.int 1))) (fVar 5)) fNil)))) fNext)
    (fSeq (fIfS (fTst (fEq (fVar 1) (fC (.int 4)))) (fRet (fCB (gCall [true, true] sp__law_lowest) (fCons (fAdd (fMul (fDiv (fIx (fVar 0) (fC (.int 0))) (fIx (fVar 0) (fC (.int 1)))) (fVar 5)) (fMod (fCB gInt (fCons (fIx (fVar 2) (fC (.int 1))) fNil)) (fVar 5))) (fCons (fVar 5) fNil)))) fNext)
    (fSeq (fAft 6 (fAsg 6 (fCB (gCall [true, true] sp__law_large) (fCons (fVar 3) (fCons (fMul (fC (.int 3)) (fPow (fC (.int 10)) (fC (.int 29)))) fNil)))))
    (fSeq (fIfS (fTst (fEq (fVar 1) (fC (.int 5)))) (fAsg 6 (fC (.int 0))) fNext)
    (fSeq (fIfS (fTst (fEq (fMod (fCB gInt (fCons (fIx (fVar 2) (fC (.int 2))) fNil)) (fC (.int 2))) (fC (.int 1)))) (fAsg 6 (fSub (fC (.int 0)) (fVar 6))) fNext)
    (fRet (fCB (gCall [true, true] sp__law_lowest) (fCons (fVar 6) (fCons (fAdd (fC (.int 1)) (fCB (gCall [true, true] sp__law_large) (fCons (fVar 4) (fCons (fSub (fMul (fC (.int 3)) (fPow (fC (.int 10)) (fC (.int 29)))) (fC (.int 1))) fNil)))) fNil)))))))))))))
def F__law_second (sp__law_lowest sp__law_large : List NW.D → R M) : NW.Env → Out := (fSeq (fAsg 5 (fAdd (fC (.int 1)) (fMod (fCB gInt (fCons (fIx (fVar 2) (fC (.int 0))) fNil)) (fC (.int 9)))))
    (fSeq (fIfS (fTst (fEq (fVar 1) (fC (.int 0)))) (fRetV 0) fNext)
    (fSeq (fIfS (fTst (fEq (fVar 1) (fC (.int 1)))) (fRet (fTup (fCons (fSub (fC (.int 0)) (fIx (fVar 0) (fC (.int 0)))) (fCons (fIx (fVar 0) (fC (.int 1))) fNil)))) fNext)
    (fSeq (fIfS (fTst (fEq (fVar 1) (fC (.int 2)))) (fRet (fCB (gCall [true, true] sp__law_lowest) (fCons (fAdd (fIx (fVar 0) (fC (.int 0))) (fVar 5)) (fCons (fIx (fVar 0) (fC (.int 1))) fNil)))) fNext)
    (fSeq (fIfS (fTst (fEq (fVar 1) (fC (.int 3)))) (fRet (fCB (gCall [true, true] sp__law_lowest) (fCons (fIx (fVar 0) (fC (.int 0))) (fCons (fAdd (fIx (fVar 0) (fC (.int 1))) (fVar 5)) fNil)))) fNext)
    (fSeq (fIfS (fTst (fEq (fVar 1) (fC (.int 4)))) (fRet (fCB (gCall [true, true] sp__law_lowest) (fCons (fAdd (fMul (fDiv (fIx (fVar 0) (fC (.int 0))) (fIx (fVar 0) (fC (.int 1)))) (fVar 5)) (fMod (fCB gInt (fCons (fIx (fVar 2) (fC (.int 1))) fNil)) (fVar 5))) (fCons (fVar 5) fNil)))) fNext)
    (fSeq (fAft 6 (fAsg 6 (fCB (gCall [true, true] sp__law_large) (fCons (fVar 3) (fCons (fMul (fC (.int 3)) (fPow (fC (.int 10)) (fC (.int 29)))) fNil)))))
    (fSeq (fIfS (fTst (fEq (fVar 1) (fC (.int 5)))) (fAsg 6 (fC (.int 0))) fNext)
    (fSeq (fIfS (fTst (fEq (fMod (fCB gInt (fCons (fIx (fVar 2) (fC (.int 2))) fNil)) (fC (.int 2))) (fC (.int 1)))) (fAsg 6 (fSub (fC (.int 0)) (fVar 6))) fNext)
    (fRet (fCB (gCall [true, true] sp__law_lowest) (fCons (fVar 6) (fCons (fAdd (fC (.int 1)) (fCB (gCall [true, true] sp__law_large) (fCons (fVar 4) (fCons (fSub (fMul (fC (.int 3)) (fPow (fC (.int 10)) (fC (.int 29)))) (fC (.int 1))) fNil)))) fNil)))))))))))))
theorem ff__law_second : f__law_second = F__law_second sp__law_lowest sp__law_large := rfl
def b__law_refused_0 (sp_frac sp_divide : List NW.D → R M) : NW.Env → Out := (fIfS (fTst (fEq (fVar 0) (fC (.int 0)))) (fDrop (fCB (gCall [true, true] sp_frac) (fCons (fVar 1) (fCons (fVar 2) fNil)))) (fDrop (fCB (gCall [true, true] sp_divide) (fCons (fVar 1) (fCons (fVar 2) fNil)))))
def h__law_refused_1 : NW.Env → Out := (fRet (fC (.bl false)))
def h__law_refused_2 : NW.Env → Out := (fRet (fAndV (fIs tb (.o "WorseError") (fVar 3)) (fAndV (fIs tb (.b "ValueError") (fVar 3)) (fNotV (fIs tb (.o "BadRatio") (fVar 3))))))
def f__law_refused : NW.Env → Out := (fSeq (fTry (b__law_refused_0 sp_frac sp_divide) (fHdAs tb "BadFraction" 3 h__law_refused_2 (fHd tb "WorseError" h__law_refused_1 (fun env x fs => .ex env x fs))))
    (fRet (fC (.bl false))))
def F__law_refused (sp_frac sp_divide : List NW.D → R M) : NW.Env → Out := (fSeq (fTry (b__law_refused_0 sp_frac sp_divide) (fHdAs tb "BadFraction" 3 h__law_refused_2 (fHd tb "WorseError" h__law_refused_1 (fun env x fs => .ex env x fs))))
    (fRet (fC (.bl false))))
theorem ff__law_refused : f__law_refused = F__law_refused sp_frac sp_divide := rfl
def f__law_pair_is_told : NW.Env → Out := (fSeq (fAft 2 (fAsg 2 (fMul (fIx (fVar 0) (fC (.int 0))) (fIx (fVar 1) (fC (.int 1))))))
    (fSeq (fAft 3 (fAsg 3 (fMul (fIx (fVar 1) (fC (.int 0))) (fIx (fVar 0) (fC (.int 1))))))
    (fSeq (fAft 4 (fAsg 4 (fMul (fIx (fVar 0) (fC (.int 1))) (fIx (fVar 1) (fC (.int 1))))))
    (fSeq (fIfS (fOr (fNot (fTst (fCB (gCall [true, true, true] sp__law_is_due) (fCons (fCB (gCall [true, true] sp_add) (fCons (fVar 0) (fCons (fVar 1) fNil))) (fCons (fAdd (fVar 2) (fVar 3)) (fCons (fVar 4) fNil)))))) (fNot (fTst (fCB (gCall [true, true, true] sp__law_is_due) (fCons (fCB (gCall [true, true] sp_subtract) (fCons (fVar 0) (fCons (fVar 1) fNil))) (fCons (fSub (fVar 2) (fVar 3)) (fCons (fVar 4) fNil))))))) (fRet (fC (.bl false))) fNext)
    (fSeq (fIfS (fNot (fTst (fCB (gCall [true, true, true] sp__law_is_due) (fCons (fCB (gCall [true, true] sp_times) (fCons (fVar 0) (fCons (fVar 1) fNil))) (fCons (fMul (fIx (fVar 0) (fC (.int 0))) (fIx (fVar 1) (fC (.int 0)))) (fCons (fVar 4) fNil)))))) (fRet (fC (.bl false))) fNext)
    (fSeq (fIfS (fTst (fEq (fIx (fVar 1) (fC (.int 0))) (fC (.int 0)))) (fIfS (fNot (fTst (fCB (gCall [true, true, true] sp__law_refused) (fCons (fC (.int 1)) (fCons (fVar 0) (fCons (fVar 1) fNil)))))) (fRet (fC (.bl false))) fNext) (fIfS (fNot (fTst (fCB (gCall [true, true, true] sp__law_is_due) (fCons (fCB (gCall [true, true] sp_divide) (fCons (fVar 0) (fCons (fVar 1) fNil))) (fCons (fVar 2) (fCons (fVar 3) fNil)))))) (fRet (fC (.bl false))) fNext))
    (fSeq (fAsg 5 (fSub (fCB gInt (fCons (fGt (fVar 2) (fVar 3)) fNil)) (fCB gInt (fCons (fLt (fVar 2) (fVar 3)) fNil))))
    (fSeq (fAft 6 (fAsg 6 (fCB (gCall [true, true] sp_compare) (fCons (fVar 0) (fCons (fVar 1) fNil)))))
    (fSeq (fIfS (fOr (fNot (fTst (fCB (gCall [true] sp__law_is_integer) (fCons (fVar 6) fNil)))) (fTst (fNe (fVar 6) (fVar 5)))) (fRet (fC (.bl false))) fNext)
    (fSeq (fAft 7 (fAsg 7 (fIf (fTst (fLt (fVar 5) (fC (.int 0)))) (fVar 1) (fVar 0))))
    (fRet (fCB (gCall [true, true, true] sp__law_is_due) (fCons (fCB (gCall [true, true] sp_greater) (fCons (fVar 0) (fCons (fVar 1) fNil))) (fCons (fIx (fVar 7) (fC (.int 0))) (fCons (fIx (fVar 7) (fC (.int 1))) fNil)))))))))))))))
def F__law_pair_is_told (sp__law_is_due sp_add sp_subtract sp_times sp__law_refused sp_divide sp_compare sp__law_is_integer sp_greater : List NW.D → R M) : NW.Env → Out := (fSeq (fAft 2 (fAsg 2 (fMul (fIx (fVar 0) (fC (.int 0))) (fIx (fVar 1) (fC (.int 1))))))
    (fSeq (fAft 3 (fAsg 3 (fMul (fIx (fVar 1) (fC (.int 0))) (fIx (fVar 0) (fC (.int 1))))))
    (fSeq (fAft 4 (fAsg 4 (fMul (fIx (fVar 0) (fC (.int 1))) (fIx (fVar 1) (fC (.int 1))))))
    (fSeq (fIfS (fOr (fNot (fTst (fCB (gCall [true, true, true] sp__law_is_due) (fCons (fCB (gCall [true, true] sp_add) (fCons (fVar 0) (fCons (fVar 1) fNil))) (fCons (fAdd (fVar 2) (fVar 3)) (fCons (fVar 4) fNil)))))) (fNot (fTst (fCB (gCall [true, true, true] sp__law_is_due) (fCons (fCB (gCall [true, true] sp_subtract) (fCons (fVar 0) (fCons (fVar 1) fNil))) (fCons (fSub (fVar 2) (fVar 3)) (fCons (fVar 4) fNil))))))) (fRet (fC (.bl false))) fNext)
    (fSeq (fIfS (fNot (fTst (fCB (gCall [true, true, true] sp__law_is_due) (fCons (fCB (gCall [true, true] sp_times) (fCons (fVar 0) (fCons (fVar 1) fNil))) (fCons (fMul (fIx (fVar 0) (fC (.int 0))) (fIx (fVar 1) (fC (.int 0)))) (fCons (fVar 4) fNil)))))) (fRet (fC (.bl false))) fNext)
    (fSeq (fIfS (fTst (fEq (fIx (fVar 1) (fC (.int 0))) (fC (.int 0)))) (fIfS (fNot (fTst (fCB (gCall [true, true, true] sp__law_refused) (fCons (fC (.int 1)) (fCons (fVar 0) (fCons (fVar 1) fNil)))))) (fRet (fC (.bl false))) fNext) (fIfS (fNot (fTst (fCB (gCall [true, true, true] sp__law_is_due) (fCons (fCB (gCall [true, true] sp_divide) (fCons (fVar 0) (fCons (fVar 1) fNil))) (fCons (fVar 2) (fCons (fVar 3) fNil)))))) (fRet (fC (.bl false))) fNext))
    (fSeq (fAsg 5 (fSub (fCB gInt (fCons (fGt (fVar 2) (fVar 3)) fNil)) (fCB gInt (fCons (fLt (fVar 2) (fVar 3)) fNil))))
    (fSeq (fAft 6 (fAsg 6 (fCB (gCall [true, true] sp_compare) (fCons (fVar 0) (fCons (fVar 1) fNil)))))
    (fSeq (fIfS (fOr (fNot (fTst (fCB (gCall [true] sp__law_is_integer) (fCons (fVar 6) fNil)))) (fTst (fNe (fVar 6) (fVar 5)))) (fRet (fC (.bl false))) fNext)
    (fSeq (fAft 7 (fAsg 7 (fIf (fTst (fLt (fVar 5) (fC (.int 0)))) (fVar 1) (fVar 0))))
    (fRet (fCB (gCall [true, true, true] sp__law_is_due) (fCons (fCB (gCall [true, true] sp_greater) (fCons (fVar 0) (fCons (fVar 1) fNil))) (fCons (fIx (fVar 7) (fC (.int 0))) (fCons (fIx (fVar 7) (fC (.int 1))) fNil)))))))))))))))
theorem ff__law_pair_is_told : f__law_pair_is_told = F__law_pair_is_told sp__law_is_due sp_add sp_subtract sp_times sp__law_refused sp_divide sp_compare sp__law_is_integer sp_greater := rfl
def b__law_frac_is_told_0 (sp__law_is_due sp_frac : List NW.D → R M) : NW.Env → Out := (fSeq (fIfS (fNot (fTst (fCB (gCall [true, true, true] sp__law_is_due) (fCons (fCB (gCall [true, true] sp_frac) (fCons (fVar 2) (fCons (fVar 3) fNil))) (fCons (fVar 2) (fCons (fVar 3) fNil)))))) (fRet (fC (.bl false))) fNext)
    (fIfS (fAnd (fTst (fNe (fVar 2) (fC (.int 0)))) (fNot (fTst (fCB (gCall [true, true, true] sp__law_is_due) (fCons (fCB (gCall [true, true] sp_frac) (fCons (fVar 3) (fCons (fVar 2) fNil))) (fCons (fVar 3) (fCons (fVar 2) fNil))))))) (fRet (fC (.bl false))) fNext))
def b__law_frac_is_told_1 (sp__law_is_due sp_frac sp__law_refused : List NW.D → R M) : NW.Env → Out := (fSeq (fFor (iSq (fLst (fCons (fVar 1) (fCons (fSub (fC (.int 0)) (fVar 1)) fNil)))) (gNm 3) (b__law_frac_is_told_0 sp__law_is_due sp_frac))
    (fIfS (fNot (fTst (fCB (gCall [true, true, true] sp__law_refused) (fCons (fC (.int 0)) (fCons (fVar 2) (fCons (fC (.int 0)) fNil)))))) (fRet (fC (.bl false))) fNext))
def f__law_frac_is_told : NW.Env → Out := (fSeq (fFor (iSq (fLst (fCons (fVar 0) (fCons (fSub (fC (.int 0)) (fVar 0)) fNil)))) (gNm 2) (b__law_frac_is_told_1 sp__law_is_due sp_frac sp__law_refused))
    (fRet (fCB (gCall [true, true, true] sp__law_refused) (fCons (fC (.int 0)) (fCons (fC (.int 0)) (fCons (fC (.int 0)) fNil))))))
def F__law_frac_is_told (sp__law_is_due sp_frac sp__law_refused : List NW.D → R M) : NW.Env → Out := (fSeq (fFor (iSq (fLst (fCons (fVar 0) (fCons (fSub (fC (.int 0)) (fVar 0)) fNil)))) (gNm 2) (b__law_frac_is_told_1 sp__law_is_due sp_frac sp__law_refused))
    (fRet (fCB (gCall [true, true, true] sp__law_refused) (fCons (fC (.int 0)) (fCons (fC (.int 0)) (fCons (fC (.int 0)) fNil))))))
theorem ff__law_frac_is_told : f__law_frac_is_told = F__law_frac_is_told sp__law_is_due sp_frac sp__law_refused := rfl
def f_law : NW.Env → Out := (fSeq (fAft 1 (fAsg 1 (fCB (gCall [true, true] sp__law_numbers) (fCons (fCB (gCall [true, true] sp__law_cell) (fCons (fVar 0) (fCons (fC (.int 0)) fNil))) (fCons (fC (.int 8)) fNil)))))
    (fSeq (fAft 2 (fAsg 2 (fCB (gCall [true, true] sp__law_large) (fCons (fCB (gCall [true, true] sp__law_cell) (fCons (fVar 0) (fCons (fC (.int 1)) fNil))) (fCons (fMul (fC (.int 3)) (fPow (fC (.int 10)) (fC (.int 29)))) fNil)))))
    (fSeq (fAsg 3 (fAdd (fC (.int 1)) (fCB (gCall [true, true] sp__law_large) (fCons (fCB (gCall [true, true] sp__law_cell) (fCons (fVar 0) (fCons (fC (.int 2)) fNil))) (fCons (fSub (fMul (fC (.int 3)) (fPow (fC (.int 10)) (fC (.int 29)))) (fC (.int 1))) fNil)))))
    (fSeq (fIfS (fTst (fEq (fMod (fIx (fVar 1) (fC (.int 0))) (fC (.int 8))) (fC (.int 0)))) (fAsg 2 (fC (.int 0))) fNext)
    (fSeq (fIfS (fTst (fEq (fMod (fIx (fVar 1) (fC (.int 0))) (fC (.int 8))) (fC (.int 1)))) (fAsg 3 (fC (.int 1))) fNext)
    (fSeq (fIfS (fTst (fEq (fMod (fIx (fVar 1) (fC (.int 1))) (fC (.int 2))) (fC (.int 1)))) (fAsg 2 (fSub (fC (.int 0)) (fVar 2))) fNext)
    (fSeq (fAft 4 (fAsg 4 (fCB (gCall [true, true] sp__law_lowest) (fCons (fVar 2) (fCons (fVar 3) fNil)))))
    (fSeq (fAft 5 (fAsg 5 (fCB (gCall [true, true, true, true, true] sp__law_second) (fCons (fVar 4) (fCons (fMod (fIx (fVar 1) (fC (.int 2))) (fC (.int 8))) (fCons (fSl (fVar 1) (oI (some (fC (.int 3)))) (oI none)) (fCons (fCB (gCall [true, true] sp__law_cell) (fCons (fVar 0) (fCons (fC (.int 3)) fNil))) (fCons (fCB (gCall [true, true] sp__law_cell) (fCons (fVar 0) (fCons (fC (.int 4)) fNil))) fNil))))))))
    (fSeq (fIfS (fOr (fNot (fTst (fCB (gCall [true, true] sp__law_pair_is_told) (fCons (fVar 4) (fCons (fVar 5) fNil))))) (fNot (fTst (fCB (gCall [true, true] sp__law_pair_is_told) (fCons (fVar 5) (fCons (fVar 4) fNil)))))) (fRet (fC (.bl false))) fNext)
    (fSeq (fIfS (fOr (fNot (fTst (fCB (gCall [true, true, true] sp__law_refused) (fCons (fC (.int 1)) (fCons (fVar 4) (fCons (fTup (fCons (fC (.int 0)) (fCons (fC (.int 1)) fNil))) fNil)))))) (fNot (fTst (fCB (gCall [true, true, true] sp__law_refused) (fCons (fC (.int 1)) (fCons (fTup (fCons (fC (.int 0)) (fCons (fC (.int 1)) fNil))) (fCons (fTup (fCons (fC (.int 0)) (fCons (fC (.int 1)) fNil))) fNil))))))) (fRet (fC (.bl false))) fNext)
    (fSeq (fAft 6 (fAsg 6 (fCB (gCall [true, true] sp__law_large) (fCons (fCB (gCall [true, true] sp__law_cell) (fCons (fVar 0) (fCons (fC (.int 5)) fNil))) (fCons (fSub (fPow (fC (.int 10)) (fC (.int 30))) (fC (.int 1))) fNil)))))
    (fSeq (fAsg 7 (fAdd (fC (.int 1)) (fCB (gCall [true, true] sp__law_large) (fCons (fCB (gCall [true, true] sp__law_cell) (fCons (fVar 0) (fCons (fC (.int 6)) fNil))) (fCons (fSub (fPow (fC (.int 10)) (fC (.int 30))) (fC (.int 2))) fNil)))))
    (fSeq (fAsg 8 (fAdd (fC (.int 1)) (fCB (gCall [true, true] sp__law_large) (fCons (fCB (gCall [true, true] sp__law_cell) (fCons (fVar 0) (fCons (fC (.int 7)) fNil))) (fCons (fSub (fPow (fC (.int 10)) (fC (.int 30))) (fC (.int 2))) fNil)))))
    (fSeq (fIfS (fTst (fEq (fMod (fIx (fVar 1) (fC (.int 6))) (fC (.int 3))) (fC (.int 0)))) (fAsg 8 (fC (.int 1))) fNext)
    (fSeq (fIfS (fTst (fEq (fMod (fIx (fVar 1) (fC (.int 7))) (fC (.int 6))) (fC (.int 0)))) (fAsg 6 (fC (.int 0))) fNext)
    (fSeq (fIfS (fNot (fTst (fCB (gCall [true, true] sp__law_frac_is_told) (fCons (fMul (fVar 6) (fVar 8)) (fCons (fMul (fVar 7) (fVar 8)) fNil))))) (fRet (fC (.bl false))) fNext)
    (fRet (fAndV (fCB (gCall [true, true, true] sp__law_is_due) (fCons (fCB (gCall [true, true] sp_frac) (fCons (fIx (fVar 4) (fC (.int 0))) (fCons (fIx (fVar 4) (fC (.int 1))) fNil))) (fCons (fIx (fVar 4) (fC (.int 0))) (fCons (fIx (fVar 4) (fC (.int 1))) fNil)))) (fCB (gCall [true, true, true] sp__law_is_due) (fCons (fCB (gCall [true, true] sp_add) (fCons (fVar 4) (fCons (fTup (fCons (fC (.int 0)) (fCons (fC (.int 1)) fNil))) fNil))) (fCons (fIx (fVar 4) (fC (.int 0))) (fCons (fIx (fVar 4) (fC (.int 1))) fNil))))))))))))))))))))))
def F_law (sp__law_numbers sp__law_cell sp__law_large sp__law_lowest sp__law_second sp__law_pair_is_told sp__law_refused sp__law_frac_is_told sp__law_is_due sp_frac sp_add : List NW.D → R M) : NW.Env → Out := (fSeq (fAft 1 (fAsg 1 (fCB (gCall [true, true] sp__law_numbers) (fCons (fCB (gCall [true, true] sp__law_cell) (fCons (fVar 0) (fCons (fC (.int 0)) fNil))) (fCons (fC (.int 8)) fNil)))))
    (fSeq (fAft 2 (fAsg 2 (fCB (gCall [true, true] sp__law_large) (fCons (fCB (gCall [true, true] sp__law_cell) (fCons (fVar 0) (fCons (fC (.int 1)) fNil))) (fCons (fMul (fC (.int 3)) (fPow (fC (.int 10)) (fC (.int 29)))) fNil)))))
    (fSeq (fAsg 3 (fAdd (fC (.int 1)) (fCB (gCall [true, true] sp__law_large) (fCons (fCB (gCall [true, true] sp__law_cell) (fCons (fVar 0) (fCons (fC (.int 2)) fNil))) (fCons (fSub (fMul (fC (.int 3)) (fPow (fC (.int 10)) (fC (.int 29)))) (fC (.int 1))) fNil)))))
    (fSeq (fIfS (fTst (fEq (fMod (fIx (fVar 1) (fC (.int 0))) (fC (.int 8))) (fC (.int 0)))) (fAsg 2 (fC (.int 0))) fNext)
    (fSeq (fIfS (fTst (fEq (fMod (fIx (fVar 1) (fC (.int 0))) (fC (.int 8))) (fC (.int 1)))) (fAsg 3 (fC (.int 1))) fNext)
    (fSeq (fIfS (fTst (fEq (fMod (fIx (fVar 1) (fC (.int 1))) (fC (.int 2))) (fC (.int 1)))) (fAsg 2 (fSub (fC (.int 0)) (fVar 2))) fNext)
    (fSeq (fAft 4 (fAsg 4 (fCB (gCall [true, true] sp__law_lowest) (fCons (fVar 2) (fCons (fVar 3) fNil)))))
    (fSeq (fAft 5 (fAsg 5 (fCB (gCall [true, true, true, true, true] sp__law_second) (fCons (fVar 4) (fCons (fMod (fIx (fVar 1) (fC (.int 2))) (fC (.int 8))) (fCons (fSl (fVar 1) (oI (some (fC (.int 3)))) (oI none)) (fCons (fCB (gCall [true, true] sp__law_cell) (fCons (fVar 0) (fCons (fC (.int 3)) fNil))) (fCons (fCB (gCall [true, true] sp__law_cell) (fCons (fVar 0) (fCons (fC (.int 4)) fNil))) fNil))))))))
    (fSeq (fIfS (fOr (fNot (fTst (fCB (gCall [true, true] sp__law_pair_is_told) (fCons (fVar 4) (fCons (fVar 5) fNil))))) (fNot (fTst (fCB (gCall [true, true] sp__law_pair_is_told) (fCons (fVar 5) (fCons (fVar 4) fNil)))))) (fRet (fC (.bl false))) fNext)
    (fSeq (fIfS (fOr (fNot (fTst (fCB (gCall [true, true, true] sp__law_refused) (fCons (fC (.int 1)) (fCons (fVar 4) (fCons (fTup (fCons (fC (.int 0)) (fCons (fC (.int 1)) fNil))) fNil)))))) (fNot (fTst (fCB (gCall [true, true, true] sp__law_refused) (fCons (fC (.int 1)) (fCons (fTup (fCons (fC (.int 0)) (fCons (fC (.int 1)) fNil))) (fCons (fTup (fCons (fC (.int 0)) (fCons (fC (.int 1)) fNil))) fNil))))))) (fRet (fC (.bl false))) fNext)
    (fSeq (fAft 6 (fAsg 6 (fCB (gCall [true, true] sp__law_large) (fCons (fCB (gCall [true, true] sp__law_cell) (fCons (fVar 0) (fCons (fC (.int 5)) fNil))) (fCons (fSub (fPow (fC (.int 10)) (fC (.int 30))) (fC (.int 1))) fNil)))))
    (fSeq (fAsg 7 (fAdd (fC (.int 1)) (fCB (gCall [true, true] sp__law_large) (fCons (fCB (gCall [true, true] sp__law_cell) (fCons (fVar 0) (fCons (fC (.int 6)) fNil))) (fCons (fSub (fPow (fC (.int 10)) (fC (.int 30))) (fC (.int 2))) fNil)))))
    (fSeq (fAsg 8 (fAdd (fC (.int 1)) (fCB (gCall [true, true] sp__law_large) (fCons (fCB (gCall [true, true] sp__law_cell) (fCons (fVar 0) (fCons (fC (.int 7)) fNil))) (fCons (fSub (fPow (fC (.int 10)) (fC (.int 30))) (fC (.int 2))) fNil)))))
    (fSeq (fIfS (fTst (fEq (fMod (fIx (fVar 1) (fC (.int 6))) (fC (.int 3))) (fC (.int 0)))) (fAsg 8 (fC (.int 1))) fNext)
    (fSeq (fIfS (fTst (fEq (fMod (fIx (fVar 1) (fC (.int 7))) (fC (.int 6))) (fC (.int 0)))) (fAsg 6 (fC (.int 0))) fNext)
    (fSeq (fIfS (fNot (fTst (fCB (gCall [true, true] sp__law_frac_is_told) (fCons (fMul (fVar 6) (fVar 8)) (fCons (fMul (fVar 7) (fVar 8)) fNil))))) (fRet (fC (.bl false))) fNext)
    (fRet (fAndV (fCB (gCall [true, true, true] sp__law_is_due) (fCons (fCB (gCall [true, true] sp_frac) (fCons (fIx (fVar 4) (fC (.int 0))) (fCons (fIx (fVar 4) (fC (.int 1))) fNil))) (fCons (fIx (fVar 4) (fC (.int 0))) (fCons (fIx (fVar 4) (fC (.int 1))) fNil)))) (fCB (gCall [true, true, true] sp__law_is_due) (fCons (fCB (gCall [true, true] sp_add) (fCons (fVar 4) (fCons (fTup (fCons (fC (.int 0)) (fCons (fC (.int 1)) fNil))) fNil))) (fCons (fIx (fVar 4) (fC (.int 0))) (fCons (fIx (fVar 4) (fC (.int 1))) fNil))))))))))))))))))))))
theorem ff_law : f_law = F_law sp__law_numbers sp__law_cell sp__law_large sp__law_lowest sp__law_second sp__law_pair_is_told sp__law_refused sp__law_frac_is_told sp__law_is_due sp_frac sp_add := rfl
end K0
set_option Elab.async false
set_option linter.all false
set_option maxRecDepth 100000
set_option maxHeartbeats 4000000
namespace K0
open PySem L2 NW
theorem bd {k : Nat} {a : Int} (h : Bd k a = true) : a.natAbs < 2 ^ k := of_decide_eq_true h
theorem bd_of {k : Nat} {a : Int} (h : a.natAbs < 2 ^ k) : Bd k a = true := decide_eq_true h
theorem bd_mono {k l : Nat} {a : Int} (h : Bd k a = true) (q : k ≤ l) : Bd l a = true := bd_of (Nat.lt_of_lt_of_le (bd h) (Nat.pow_le_pow_right (by decide) q))
theorem bd_neg {k : Nat} {a : Int} : Bd k (-a) = Bd k a := by unfold Bd; rw [Int.natAbs_neg]
theorem bd_mul {k l : Nat} {a b : Int} (h : Bd k a = true) (q : Bd l b = true) : Bd (k + l) (a * b) = true := by
  refine bd_of ?_
  rw [Int.natAbs_mul, Nat.pow_add]
  exact Nat.mul_lt_mul'' (bd h) (bd q)
theorem bd_add {k : Nat} {a b : Int} (h : Bd k a = true) (q : Bd k b = true) : Bd (k + 1) (a + b) = true := by
  refine bd_of ?_
  have h1 := bd h
  have h2 := bd q
  rw [Nat.pow_succ]
  omega
theorem bd_sub {k : Nat} {a b : Int} (h : Bd k a = true) (q : Bd k b = true) : Bd (k + 1) (a - b) = true := by
  refine bd_of ?_
  have h1 := bd h
  have h2 := bd q
  rw [Nat.pow_succ]
  omega
theorem gd_pos {n d : Int} (h : d ≠ 0) : 0 < gd n d := by
  unfold gd
  have : 0 < Nat.gcd n.natAbs d.natAbs := Nat.gcd_pos_of_pos_right _ (by omega)
  omega
theorem gd_le {n d : Int} (h : d ≠ 0) : (gd n d).natAbs ≤ d.natAbs := by
  unfold gd
  rw [Int.natAbs_natCast]
  exact Nat.gcd_le_right _ (by omega)
theorem divOk_of {i j : Int} {k : Nat} (h : 0 < j) (hb : Bd k j = true) (hk : k ≤ 9000) : divOk i j = true := by
  refine decide_eq_true ⟨h, ?_⟩
  refine Nat.lt_of_lt_of_le ((Nat.log2_lt (by omega)).mpr (bd hb)) hk
theorem mulOk_of {i j : Int} {k l : Nat} (h1 : Bd k i = true) (h2 : Bd l j = true) (hk : k + l < 900000) (k0 : 0 < k) (l0 : 0 < l) : mulOk i j = true := by
  unfold mulOk
  rw [Bool.or_eq_true]
  refine .inr (decide_eq_true ?_)
  have a : i.natAbs.log2 ≤ k := by
    by_cases e : i.natAbs = 0
    · rw [e]; simp
    · exact Nat.le_of_lt ((Nat.log2_lt e).mpr (bd h1))
  have b : j.natAbs.log2 ≤ l := by
    by_cases e : j.natAbs = 0
    · rw [e]; simp
    · exact Nat.le_of_lt ((Nat.log2_lt e).mpr (bd h2))
  omega
theorem divOk_gd {i n d : Int} {k : Nat} (h : d ≠ 0) (hb : Bd k d = true) (hk : k ≤ 9000) : divOk i (gd n d) = true :=
  divOk_of (k := k) (gd_pos h) (bd_of (Nat.lt_of_le_of_lt (gd_le h) (bd hb))) hk
theorem gd_neg (n d : Int) : gd (-n) (-d) = gd n d := by unfold gd; rw [Int.natAbs_neg, Int.natAbs_neg]
theorem h_frac : ∀ ds, sp_frac ds ≠ .bad → endO (f_frac (startE 3 [true, true] ds)) = sp_frac ds := by
  intro ds h
  unfold sp_frac at h ⊢
  split at h
  · rename_i n d
    by_cases d0 : d = 0
    · simp only [f_frac, fSeq_eq, seqO_nx, seqO_rt, seqO_bk, seqO_ct, seqO_ex, seqO_bad, seqO_ite, fAft_eq, aftO_nx, aftO_rt, aftO_ex, aftO_bad, aftO_ite, endO_nx, endO_rt, endO_ex, endO_bad, endO_ite, goE_ite, bind_ite, eq_int, ne_int, ix_tup0, ix_tup1, ix_tup2, ix_tup3, ix_tup4, ix_lst0, ix_lst1, ix_lst2, ix_lst3, ix_lst4, fIfS, fAsg, fBef, frz1, fRet, fRetV, fDrop, fApp, fSetAt, fAug, fFor, fRaise, fNext, goE_ok, goE_ex, goE_bad, fTst, fB, fNeg, gNeg, gI, gI0, gB0, fVar, fC, fCB, fCons, fNil, fTup, fLst, fIf, fAnd, fOr, fNot, fAndV, fOrV, fNotV, fIsT, gIsT, D.ty, fChain, fSl, oI, ownAll, Cl.owned, Cl.toD, Cl.m, view, clB, R.bind_ok, R.bind_ex, R.bind_bad, okI, okB, asB, startE, argM, gCall_eq, callO_some, resC_ok, resC_ex, resC_bad, resC_ite, argD, arg1, gAbs, gInt, gGcd, gLen, gIsN, D.isN, mkTup, isIm, M.toD, M.toDs, M.pure, M.pures, gNm, iR1, iR2, iSq, itemsE, List.set_cons_zero, List.set_cons_succ, List.getElem?_cons_zero, List.getElem?_cons_succ, List.getElem?_nil, List.cons_append, List.nil_append, List.append_nil, List.length_cons, List.length_nil, List.replicate_succ, List.replicate_zero, List.set_nil, List.all_cons, List.all_nil, Bool.and_true, Bool.true_and, Bool.and_self, if_true, if_false, if_pos, Bool.false_eq_true, decide_true, decide_false, Nat.reduceAdd, Nat.reduceSub, ite_true, ite_false, Bool.not_true, Bool.not_false, kit_ii, kit_ib, kit_bb, kit_bi, kit_tt, kit_it, lenOk, smOk, Nat.reduceLeDiff, Nat.reduceLT, decide_eq_true_eq, Bool.and_eq_true, fTry_eq, tryO_nx, tryO_rt, tryO_bk, tryO_ct, tryO_ex, tryO_ite, fHd, fHdAs, calmO, calmO_ite, outI, outI_ite, fIs, isQ_exc, isQ_obj, isQ, isT2, fAt, gAt, fl_imE, fl_boE, fl_imO, fl_boO, fl_obj, fg_t, fg_f, imF, boF, fRaise, pures_ints, it_imL, it_imT, it_imF, it_boL, it_boT, it_boF, it_lst, it_tup, it_li, items_dl, List.map_cons, List.map_nil, toDs_ints, pures_ims, toDs_ims, li_pure, li_toD, ld_pure, ld_toD, d0]
    · rw [if_neg d0] at h ⊢
      split at h
      · rename_i hb
        rw [if_pos hb]
        rw [Bool.and_eq_true] at hb
        have hg : ∀ i, divOk i (gd n d) = true := fun i => divOk_gd d0 hb.2 (by decide)
        have e1 : (((n.natAbs).gcd d.natAbs : Nat) : Int) = gd n d := rfl
        simp only [f_frac, fSeq_eq, seqO_nx, seqO_rt, seqO_bk, seqO_ct, seqO_ex, seqO_bad, seqO_ite, fAft_eq, aftO_nx, aftO_rt, aftO_ex, aftO_bad, aftO_ite, endO_nx, endO_rt, endO_ex, endO_bad, endO_ite, goE_ite, bind_ite, eq_int, ne_int, ix_tup0, ix_tup1, ix_tup2, ix_tup3, ix_tup4, ix_lst0, ix_lst1, ix_lst2, ix_lst3, ix_lst4, fIfS, fAsg, fBef, frz1, fRet, fRetV, fDrop, fApp, fSetAt, fAug, fFor, fRaise, fNext, goE_ok, goE_ex, goE_bad, fTst, fB, fNeg, gNeg, gI, gI0, gB0, fVar, fC, fCB, fCons, fNil, fTup, fLst, fIf, fAnd, fOr, fNot, fAndV, fOrV, fNotV, fIsT, gIsT, D.ty, fChain, fSl, oI, ownAll, Cl.owned, Cl.toD, Cl.m, view, clB, R.bind_ok, R.bind_ex, R.bind_bad, okI, okB, asB, startE, argM, gCall_eq, callO_some, resC_ok, resC_ex, resC_bad, resC_ite, argD, arg1, gAbs, gInt, gGcd, gLen, gIsN, D.isN, mkTup, isIm, M.toD, M.toDs, M.pure, M.pures, gNm, iR1, iR2, iSq, itemsE, List.set_cons_zero, List.set_cons_succ, List.getElem?_cons_zero, List.getElem?_cons_succ, List.getElem?_nil, List.cons_append, List.nil_append, List.append_nil, List.length_cons, List.length_nil, List.replicate_succ, List.replicate_zero, List.set_nil, List.all_cons, List.all_nil, Bool.and_true, Bool.true_and, Bool.and_self, if_true, if_false, if_pos, Bool.false_eq_true, decide_true, decide_false, Nat.reduceAdd, Nat.reduceSub, ite_true, ite_false, Bool.not_true, Bool.not_false, kit_ii, kit_ib, kit_bb, kit_bi, kit_tt, kit_it, lenOk, smOk, Nat.reduceLeDiff, Nat.reduceLT, decide_eq_true_eq, Bool.and_eq_true, fTry_eq, tryO_nx, tryO_rt, tryO_bk, tryO_ct, tryO_ex, tryO_ite, fHd, fHdAs, calmO, calmO_ite, outI, outI_ite, fIs, isQ_exc, isQ_obj, isQ, isT2, fAt, gAt, fl_imE, fl_boE, fl_imO, fl_boO, fl_obj, fg_t, fg_f, imF, boF, fRaise, pures_ints, it_imL, it_imT, it_imF, it_boL, it_boT, it_boF, it_lst, it_tup, it_li, items_dl, List.map_cons, List.map_nil, toDs_ints, pures_ims, toDs_ims, li_pure, li_toD, ld_pure, ld_toD, d0, Int.natAbs_neg, e1, hg, frN, frD, fr]
        by_cases dn : d < 0
        · simp only [dn, if_true, decide_true]
        · simp only [dn, if_false, decide_false, Bool.false_eq_true]
      · exact absurd rfl h
  · exact absurd rfl h
theorem frac_eq {n d : Int} (hn : Bd 4000 n = true) (hd : Bd 4000 d = true) : sp_frac [.int n, .int d] = if d = 0 then .ex "BadFraction" [] else .ok (.im (fr (frN n d) (frD n d))) := by
  show (if d = 0 then _ else if (Bd 4000 n && Bd 4000 d) = true then _ else _) = _
  rw [hn, hd]; rfl
theorem b4 {a b c d : Int} (h : B4 a b c d = true) : Bd 1000 a = true ∧ Bd 1000 b = true ∧ Bd 1000 c = true ∧ Bd 1000 d = true := by
  unfold B4 at h
  rw [Bool.and_eq_true, Bool.and_eq_true, Bool.and_eq_true] at h
  exact h
theorem m1000 {i j : Int} (h : Bd 1000 i = true) (q : Bd 1000 j = true) : mulOk i j = true := mulOk_of h q (by decide) (by decide) (by decide)
theorem h_add : ∀ ds, sp_add ds ≠ .bad → endO (f_add (startE 2 [true, true] ds)) = sp_add ds := by
  intro ds h
  unfold sp_add at h ⊢
  split at h
  · rename_i a b c d
    split at h
    · rename_i hb
      obtain ⟨h1, h2, h3, h4⟩ := b4 hb
      have e := frac_eq (n := a * d + c * b) (d := b * d) (bd_mono (bd_add (bd_mul h1 h4) (bd_mul h3 h2)) (by decide)) (bd_mono (bd_mul h2 h4) (by decide))
      simp only [f_add, fSeq_eq, seqO_nx, seqO_rt, seqO_bk, seqO_ct, seqO_ex, seqO_bad, seqO_ite, fAft_eq, aftO_nx, aftO_rt, aftO_ex, aftO_bad, aftO_ite, endO_nx, endO_rt, endO_ex, endO_bad, endO_ite, goE_ite, bind_ite, eq_int, ne_int, ix_tup0, ix_tup1, ix_tup2, ix_tup3, ix_tup4, ix_lst0, ix_lst1, ix_lst2, ix_lst3, ix_lst4, fIfS, fAsg, fBef, frz1, fRet, fRetV, fDrop, fApp, fSetAt, fAug, fFor, fRaise, fNext, goE_ok, goE_ex, goE_bad, fTst, fB, fNeg, gNeg, gI, gI0, gB0, fVar, fC, fCB, fCons, fNil, fTup, fLst, fIf, fAnd, fOr, fNot, fAndV, fOrV, fNotV, fIsT, gIsT, D.ty, fChain, fSl, oI, ownAll, Cl.owned, Cl.toD, Cl.m, view, clB, R.bind_ok, R.bind_ex, R.bind_bad, okI, okB, asB, startE, argM, gCall_eq, callO_some, resC_ok, resC_ex, resC_bad, resC_ite, argD, arg1, gAbs, gInt, gGcd, gLen, gIsN, D.isN, mkTup, isIm, M.toD, M.toDs, M.pure, M.pures, gNm, iR1, iR2, iSq, itemsE, List.set_cons_zero, List.set_cons_succ, List.getElem?_cons_zero, List.getElem?_cons_succ, List.getElem?_nil, List.cons_append, List.nil_append, List.append_nil, List.length_cons, List.length_nil, List.replicate_succ, List.replicate_zero, List.set_nil, List.all_cons, List.all_nil, Bool.and_true, Bool.true_and, Bool.and_self, if_true, if_false, if_pos, Bool.false_eq_true, decide_true, decide_false, Nat.reduceAdd, Nat.reduceSub, ite_true, ite_false, Bool.not_true, Bool.not_false, kit_ii, kit_ib, kit_bb, kit_bi, kit_tt, kit_it, lenOk, smOk, Nat.reduceLeDiff, Nat.reduceLT, decide_eq_true_eq, Bool.and_eq_true, fTry_eq, tryO_nx, tryO_rt, tryO_bk, tryO_ct, tryO_ex, tryO_ite, fHd, fHdAs, calmO, calmO_ite, outI, outI_ite, fIs, isQ_exc, isQ_obj, isQ, isT2, fAt, gAt, fl_imE, fl_boE, fl_imO, fl_boO, fl_obj, fg_t, fg_f, imF, boF, fRaise, pures_ints, it_imL, it_imT, it_imF, it_boL, it_boT, it_boF, it_lst, it_tup, it_li, items_dl, List.map_cons, List.map_nil, toDs_ints, pures_ims, toDs_ims, li_pure, li_toD, ld_pure, ld_toD, m1000 h1 h4, m1000 h3 h2, m1000 h2 h4, e, hb, fr]
    · exact absurd rfl h
  · exact absurd rfl h
theorem h_subtract : ∀ ds, sp_subtract ds ≠ .bad → endO (f_subtract (startE 2 [true, true] ds)) = sp_subtract ds := by
  intro ds h
  unfold sp_subtract at h ⊢
  split at h
  · rename_i a b c d
    split at h
    · rename_i hb
      obtain ⟨h1, h2, h3, h4⟩ := b4 hb
      have e := frac_eq (n := a * d - c * b) (d := b * d) (bd_mono (bd_sub (bd_mul h1 h4) (bd_mul h3 h2)) (by decide)) (bd_mono (bd_mul h2 h4) (by decide))
      simp only [f_subtract, fSeq_eq, seqO_nx, seqO_rt, seqO_bk, seqO_ct, seqO_ex, seqO_bad, seqO_ite, fAft_eq, aftO_nx, aftO_rt, aftO_ex, aftO_bad, aftO_ite, endO_nx, endO_rt, endO_ex, endO_bad, endO_ite, goE_ite, bind_ite, eq_int, ne_int, ix_tup0, ix_tup1, ix_tup2, ix_tup3, ix_tup4, ix_lst0, ix_lst1, ix_lst2, ix_lst3, ix_lst4, fIfS, fAsg, fBef, frz1, fRet, fRetV, fDrop, fApp, fSetAt, fAug, fFor, fRaise, fNext, goE_ok, goE_ex, goE_bad, fTst, fB, fNeg, gNeg, gI, gI0, gB0, fVar, fC, fCB, fCons, fNil, fTup, fLst, fIf, fAnd, fOr, fNot, fAndV, fOrV, fNotV, fIsT, gIsT, D.ty, fChain, fSl, oI, ownAll, Cl.owned, Cl.toD, Cl.m, view, clB, R.bind_ok, R.bind_ex, R.bind_bad, okI, okB, asB, startE, argM, gCall_eq, callO_some, resC_ok, resC_ex, resC_bad, resC_ite, argD, arg1, gAbs, gInt, gGcd, gLen, gIsN, D.isN, mkTup, isIm, M.toD, M.toDs, M.pure, M.pures, gNm, iR1, iR2, iSq, itemsE, List.set_cons_zero, List.set_cons_succ, List.getElem?_cons_zero, List.getElem?_cons_succ, List.getElem?_nil, List.cons_append, List.nil_append, List.append_nil, List.length_cons, List.length_nil, List.replicate_succ, List.replicate_zero, List.set_nil, List.all_cons, List.all_nil, Bool.and_true, Bool.true_and, Bool.and_self, if_true, if_false, if_pos, Bool.false_eq_true, decide_true, decide_false, Nat.reduceAdd, Nat.reduceSub, ite_true, ite_false, Bool.not_true, Bool.not_false, kit_ii, kit_ib, kit_bb, kit_bi, kit_tt, kit_it, lenOk, smOk, Nat.reduceLeDiff, Nat.reduceLT, decide_eq_true_eq, Bool.and_eq_true, fTry_eq, tryO_nx, tryO_rt, tryO_bk, tryO_ct, tryO_ex, tryO_ite, fHd, fHdAs, calmO, calmO_ite, outI, outI_ite, fIs, isQ_exc, isQ_obj, isQ, isT2, fAt, gAt, fl_imE, fl_boE, fl_imO, fl_boO, fl_obj, fg_t, fg_f, imF, boF, fRaise, pures_ints, it_imL, it_imT, it_imF, it_boL, it_boT, it_boF, it_lst, it_tup, it_li, items_dl, List.map_cons, List.map_nil, toDs_ints, pures_ims, toDs_ims, li_pure, li_toD, ld_pure, ld_toD, m1000 h1 h4, m1000 h3 h2, m1000 h2 h4, e, hb, fr]
    · exact absurd rfl h
  · exact absurd rfl h
theorem h_times : ∀ ds, sp_times ds ≠ .bad → endO (f_times (startE 2 [true, true] ds)) = sp_times ds := by
  intro ds h
  unfold sp_times at h ⊢
  split at h
  · rename_i a b c d
    split at h
    · rename_i hb
      obtain ⟨h1, h2, h3, h4⟩ := b4 hb
      have e := frac_eq (n := a * c) (d := b * d) (bd_mono (bd_mul h1 h3) (by decide)) (bd_mono (bd_mul h2 h4) (by decide))
      simp only [f_times, fSeq_eq, seqO_nx, seqO_rt, seqO_bk, seqO_ct, seqO_ex, seqO_bad, seqO_ite, fAft_eq, aftO_nx, aftO_rt, aftO_ex, aftO_bad, aftO_ite, endO_nx, endO_rt, endO_ex, endO_bad, endO_ite, goE_ite, bind_ite, eq_int, ne_int, ix_tup0, ix_tup1, ix_tup2, ix_tup3, ix_tup4, ix_lst0, ix_lst1, ix_lst2, ix_lst3, ix_lst4, fIfS, fAsg, fBef, frz1, fRet, fRetV, fDrop, fApp, fSetAt, fAug, fFor, fRaise, fNext, goE_ok, goE_ex, goE_bad, fTst, fB, fNeg, gNeg, gI, gI0, gB0, fVar, fC, fCB, fCons, fNil, fTup, fLst, fIf, fAnd, fOr, fNot, fAndV, fOrV, fNotV, fIsT, gIsT, D.ty, fChain, fSl, oI, ownAll, Cl.owned, Cl.toD, Cl.m, view, clB, R.bind_ok, R.bind_ex, R.bind_bad, okI, okB, asB, startE, argM, gCall_eq, callO_some, resC_ok, resC_ex, resC_bad, resC_ite, argD, arg1, gAbs, gInt, gGcd, gLen, gIsN, D.isN, mkTup, isIm, M.toD, M.toDs, M.pure, M.pures, gNm, iR1, iR2, iSq, itemsE, List.set_cons_zero, List.set_cons_succ, List.getElem?_cons_zero, List.getElem?_cons_succ, List.getElem?_nil, List.cons_append, List.nil_append, List.append_nil, List.length_cons, List.length_nil, List.replicate_succ, List.replicate_zero, List.set_nil, List.all_cons, List.all_nil, Bool.and_true, Bool.true_and, Bool.and_self, if_true, if_false, if_pos, Bool.false_eq_true, decide_true, decide_false, Nat.reduceAdd, Nat.reduceSub, ite_true, ite_false, Bool.not_true, Bool.not_false, kit_ii, kit_ib, kit_bb, kit_bi, kit_tt, kit_it, lenOk, smOk, Nat.reduceLeDiff, Nat.reduceLT, decide_eq_true_eq, Bool.and_eq_true, fTry_eq, tryO_nx, tryO_rt, tryO_bk, tryO_ct, tryO_ex, tryO_ite, fHd, fHdAs, calmO, calmO_ite, outI, outI_ite, fIs, isQ_exc, isQ_obj, isQ, isT2, fAt, gAt, fl_imE, fl_boE, fl_imO, fl_boO, fl_obj, fg_t, fg_f, imF, boF, fRaise, pures_ints, it_imL, it_imT, it_imF, it_boL, it_boT, it_boF, it_lst, it_tup, it_li, items_dl, List.map_cons, List.map_nil, toDs_ints, pures_ims, toDs_ims, li_pure, li_toD, ld_pure, ld_toD, m1000 h1 h3, m1000 h2 h4, e, hb, fr]
    · exact absurd rfl h
  · exact absurd rfl h
theorem h_divide : ∀ ds, sp_divide ds ≠ .bad → endO (f_divide (startE 2 [true, true] ds)) = sp_divide ds := by
  intro ds h
  unfold sp_divide at h ⊢
  split at h
  · rename_i a b c d
    split at h
    · rename_i hb
      obtain ⟨h1, h2, h3, h4⟩ := b4 hb
      have e := frac_eq (n := a * d) (d := b * c) (bd_mono (bd_mul h1 h4) (by decide)) (bd_mono (bd_mul h2 h3) (by decide))
      simp only [f_divide, fSeq_eq, seqO_nx, seqO_rt, seqO_bk, seqO_ct, seqO_ex, seqO_bad, seqO_ite, fAft_eq, aftO_nx, aftO_rt, aftO_ex, aftO_bad, aftO_ite, endO_nx, endO_rt, endO_ex, endO_bad, endO_ite, goE_ite, bind_ite, eq_int, ne_int, ix_tup0, ix_tup1, ix_tup2, ix_tup3, ix_tup4, ix_lst0, ix_lst1, ix_lst2, ix_lst3, ix_lst4, fIfS, fAsg, fBef, frz1, fRet, fRetV, fDrop, fApp, fSetAt, fAug, fFor, fRaise, fNext, goE_ok, goE_ex, goE_bad, fTst, fB, fNeg, gNeg, gI, gI0, gB0, fVar, fC, fCB, fCons, fNil, fTup, fLst, fIf, fAnd, fOr, fNot, fAndV, fOrV, fNotV, fIsT, gIsT, D.ty, fChain, fSl, oI, ownAll, Cl.owned, Cl.toD, Cl.m, view, clB, R.bind_ok, R.bind_ex, R.bind_bad, okI, okB, asB, startE, argM, gCall_eq, callO_some, resC_ok, resC_ex, resC_bad, resC_ite, argD, arg1, gAbs, gInt, gGcd, gLen, gIsN, D.isN, mkTup, isIm, M.toD, M.toDs, M.pure, M.pures, gNm, iR1, iR2, iSq, itemsE, List.set_cons_zero, List.set_cons_succ, List.getElem?_cons_zero, List.getElem?_cons_succ, List.getElem?_nil, List.cons_append, List.nil_append, List.append_nil, List.length_cons, List.length_nil, List.replicate_succ, List.replicate_zero, List.set_nil, List.all_cons, List.all_nil, Bool.and_true, Bool.true_and, Bool.and_self, if_true, if_false, if_pos, Bool.false_eq_true, decide_true, decide_false, Nat.reduceAdd, Nat.reduceSub, ite_true, ite_false, Bool.not_true, Bool.not_false, kit_ii, kit_ib, kit_bb, kit_bi, kit_tt, kit_it, lenOk, smOk, Nat.reduceLeDiff, Nat.reduceLT, decide_eq_true_eq, Bool.and_eq_true, fTry_eq, tryO_nx, tryO_rt, tryO_bk, tryO_ct, tryO_ex, tryO_ite, fHd, fHdAs, calmO, calmO_ite, outI, outI_ite, fIs, isQ_exc, isQ_obj, isQ, isT2, fAt, gAt, fl_imE, fl_boE, fl_imO, fl_boO, fl_obj, fg_t, fg_f, imF, boF, fRaise, pures_ints, it_imL, it_imT, it_imF, it_boL, it_boT, it_boF, it_lst, it_tup, it_li, items_dl, List.map_cons, List.map_nil, toDs_ints, pures_ims, toDs_ims, li_pure, li_toD, ld_pure, ld_toD, m1000 h1 h4, m1000 h2 h3, e, hb, fr]
    · exact absurd rfl h
  · exact absurd rfl h
theorem h_compare : ∀ ds, sp_compare ds ≠ .bad → endO (f_compare (startE 4 [true, true] ds)) = sp_compare ds := by
  intro ds h
  unfold sp_compare at h ⊢
  split at h
  · rename_i a b c d
    split at h
    · rename_i hb
      obtain ⟨h1, h2, h3, h4⟩ := b4 hb
      simp only [f_compare, fSeq_eq, seqO_nx, seqO_rt, seqO_bk, seqO_ct, seqO_ex, seqO_bad, seqO_ite, fAft_eq, aftO_nx, aftO_rt, aftO_ex, aftO_bad, aftO_ite, endO_nx, endO_rt, endO_ex, endO_bad, endO_ite, goE_ite, bind_ite, eq_int, ne_int, ix_tup0, ix_tup1, ix_tup2, ix_tup3, ix_tup4, ix_lst0, ix_lst1, ix_lst2, ix_lst3, ix_lst4, fIfS, fAsg, fBef, frz1, fRet, fRetV, fDrop, fApp, fSetAt, fAug, fFor, fRaise, fNext, goE_ok, goE_ex, goE_bad, fTst, fB, fNeg, gNeg, gI, gI0, gB0, fVar, fC, fCB, fCons, fNil, fTup, fLst, fIf, fAnd, fOr, fNot, fAndV, fOrV, fNotV, fIsT, gIsT, D.ty, fChain, fSl, oI, ownAll, Cl.owned, Cl.toD, Cl.m, view, clB, R.bind_ok, R.bind_ex, R.bind_bad, okI, okB, asB, startE, argM, gCall_eq, callO_some, resC_ok, resC_ex, resC_bad, resC_ite, argD, arg1, gAbs, gInt, gGcd, gLen, gIsN, D.isN, mkTup, isIm, M.toD, M.toDs, M.pure, M.pures, gNm, iR1, iR2, iSq, itemsE, List.set_cons_zero, List.set_cons_succ, List.getElem?_cons_zero, List.getElem?_cons_succ, List.getElem?_nil, List.cons_append, List.nil_append, List.append_nil, List.length_cons, List.length_nil, List.replicate_succ, List.replicate_zero, List.set_nil, List.all_cons, List.all_nil, Bool.and_true, Bool.true_and, Bool.and_self, if_true, if_false, if_pos, Bool.false_eq_true, decide_true, decide_false, Nat.reduceAdd, Nat.reduceSub, ite_true, ite_false, Bool.not_true, Bool.not_false, kit_ii, kit_ib, kit_bb, kit_bi, kit_tt, kit_it, lenOk, smOk, Nat.reduceLeDiff, Nat.reduceLT, decide_eq_true_eq, Bool.and_eq_true, fTry_eq, tryO_nx, tryO_rt, tryO_bk, tryO_ct, tryO_ex, tryO_ite, fHd, fHdAs, calmO, calmO_ite, outI, outI_ite, fIs, isQ_exc, isQ_obj, isQ, isT2, fAt, gAt, fl_imE, fl_boE, fl_imO, fl_boO, fl_obj, fg_t, fg_f, imF, boF, fRaise, pures_ints, it_imL, it_imT, it_imF, it_boL, it_boT, it_boF, it_lst, it_tup, it_li, items_dl, List.map_cons, List.map_nil, toDs_ints, pures_ims, toDs_ims, li_pure, li_toD, ld_pure, ld_toD, m1000 h1 h4, m1000 h3 h2, hb, ord]
      split
      · rfl
      · split <;> rfl
    · exact absurd rfl h
  · exact absurd rfl h
theorem h_greater : ∀ ds, sp_greater ds ≠ .bad → endO (f_greater (startE 2 [true, true] ds)) = sp_greater ds := by
  intro ds h
  unfold sp_greater at h ⊢
  split at h
  · rename_i a b c d
    split at h
    · rename_i hb
      have e : sp_compare [.tup [.int a, .int b], .tup [.int c, .int d]] = .ok (.im (.int (ord (a * d) (c * b)))) := by
        show (if B4 a b c d = true then _ else _) = _
        rw [if_pos hb]
      simp only [f_greater, fSeq_eq, seqO_nx, seqO_rt, seqO_bk, seqO_ct, seqO_ex, seqO_bad, seqO_ite, fAft_eq, aftO_nx, aftO_rt, aftO_ex, aftO_bad, aftO_ite, endO_nx, endO_rt, endO_ex, endO_bad, endO_ite, goE_ite, bind_ite, eq_int, ne_int, ix_tup0, ix_tup1, ix_tup2, ix_tup3, ix_tup4, ix_lst0, ix_lst1, ix_lst2, ix_lst3, ix_lst4, fIfS, fAsg, fBef, frz1, fRet, fRetV, fDrop, fApp, fSetAt, fAug, fFor, fRaise, fNext, goE_ok, goE_ex, goE_bad, fTst, fB, fNeg, gNeg, gI, gI0, gB0, fVar, fC, fCB, fCons, fNil, fTup, fLst, fIf, fAnd, fOr, fNot, fAndV, fOrV, fNotV, fIsT, gIsT, D.ty, fChain, fSl, oI, ownAll, Cl.owned, Cl.toD, Cl.m, view, clB, R.bind_ok, R.bind_ex, R.bind_bad, okI, okB, asB, startE, argM, gCall_eq, callO_some, resC_ok, resC_ex, resC_bad, resC_ite, argD, arg1, gAbs, gInt, gGcd, gLen, gIsN, D.isN, mkTup, isIm, M.toD, M.toDs, M.pure, M.pures, gNm, iR1, iR2, iSq, itemsE, List.set_cons_zero, List.set_cons_succ, List.getElem?_cons_zero, List.getElem?_cons_succ, List.getElem?_nil, List.cons_append, List.nil_append, List.append_nil, List.length_cons, List.length_nil, List.replicate_succ, List.replicate_zero, List.set_nil, List.all_cons, List.all_nil, Bool.and_true, Bool.true_and, Bool.and_self, if_true, if_false, if_pos, Bool.false_eq_true, decide_true, decide_false, Nat.reduceAdd, Nat.reduceSub, ite_true, ite_false, Bool.not_true, Bool.not_false, kit_ii, kit_ib, kit_bb, kit_bi, kit_tt, kit_it, lenOk, smOk, Nat.reduceLeDiff, Nat.reduceLT, decide_eq_true_eq, Bool.and_eq_true, fTry_eq, tryO_nx, tryO_rt, tryO_bk, tryO_ct, tryO_ex, tryO_ite, fHd, fHdAs, calmO, calmO_ite, outI, outI_ite, fIs, isQ_exc, isQ_obj, isQ, isT2, fAt, gAt, fl_imE, fl_boE, fl_imO, fl_boO, fl_obj, fg_t, fg_f, imF, boF, fRaise, pures_ints, it_imL, it_imT, it_imF, it_boL, it_boT, it_boF, it_lst, it_tup, it_li, items_dl, List.map_cons, List.map_nil, toDs_ints, pures_ims, toDs_ims, li_pure, li_toD, ld_pure, ld_toD, e, hb]
      by_cases q : a * d < c * b
      · have : ord (a * d) (c * b) < 0 := by unfold ord; rw [if_pos q]; decide
        simp only [q, this, if_true, fr]
      · have : ¬ ord (a * d) (c * b) < 0 := by unfold ord; rw [if_neg q]; split <;> decide
        simp only [q, this, if_false, fr]
    · exact absurd rfl h
  · exact absurd rfl h
theorem h__law_is_integer : ∀ ds, sp__law_is_integer ds ≠ .bad → endO (f__law_is_integer (startE 1 [true] ds)) = sp__law_is_integer ds := by
  intro ds h
  unfold sp__law_is_integer at h ⊢
  split at h
  · simp only [f__law_is_integer, fSeq_eq, seqO_nx, seqO_rt, seqO_bk, seqO_ct, seqO_ex, seqO_bad, seqO_ite, fAft_eq, aftO_nx, aftO_rt, aftO_ex, aftO_bad, aftO_ite, endO_nx, endO_rt, endO_ex, endO_bad, endO_ite, goE_ite, bind_ite, eq_int, ne_int, ix_tup0, ix_tup1, ix_tup2, ix_tup3, ix_tup4, ix_lst0, ix_lst1, ix_lst2, ix_lst3, ix_lst4, fIfS, fAsg, fBef, frz1, fRet, fRetV, fDrop, fApp, fSetAt, fAug, fFor, fRaise, fNext, goE_ok, goE_ex, goE_bad, fTst, fB, fNeg, gNeg, gI, gI0, gB0, fVar, fC, fCB, fCons, fNil, fTup, fLst, fIf, fAnd, fOr, fNot, fAndV, fOrV, fNotV, fIsT, gIsT, D.ty, fChain, fSl, oI, ownAll, Cl.owned, Cl.toD, Cl.m, view, clB, R.bind_ok, R.bind_ex, R.bind_bad, okI, okB, asB, startE, argM, gCall_eq, callO_some, resC_ok, resC_ex, resC_bad, resC_ite, argD, arg1, gAbs, gInt, gGcd, gLen, gIsN, D.isN, mkTup, isIm, M.toD, M.toDs, M.pure, M.pures, gNm, iR1, iR2, iSq, itemsE, List.set_cons_zero, List.set_cons_succ, List.getElem?_cons_zero, List.getElem?_cons_succ, List.getElem?_nil, List.cons_append, List.nil_append, List.append_nil, List.length_cons, List.length_nil, List.replicate_succ, List.replicate_zero, List.set_nil, List.all_cons, List.all_nil, Bool.and_true, Bool.true_and, Bool.and_self, if_true, if_false, if_pos, Bool.false_eq_true, decide_true, decide_false, Nat.reduceAdd, Nat.reduceSub, ite_true, ite_false, Bool.not_true, Bool.not_false, kit_ii, kit_ib, kit_bb, kit_bi, kit_tt, kit_it, lenOk, smOk, Nat.reduceLeDiff, Nat.reduceLT, decide_eq_true_eq, Bool.and_eq_true, fTry_eq, tryO_nx, tryO_rt, tryO_bk, tryO_ct, tryO_ex, tryO_ite, fHd, fHdAs, calmO, calmO_ite, outI, outI_ite, fIs, isQ_exc, isQ_obj, isQ, isT2, fAt, gAt, fl_imE, fl_boE, fl_imO, fl_boO, fl_obj, fg_t, fg_f, imF, boF, fRaise, pures_ints, it_imL, it_imT, it_imF, it_boL, it_boT, it_boF, it_lst, it_tup, it_li, items_dl, List.map_cons, List.map_nil, toDs_ints, pures_ims, toDs_ims, li_pure, li_toD, ld_pure, ld_toD]
  · exact absurd rfl h
theorem h__law_cell : ∀ ds, sp__law_cell ds ≠ .bad → endO (f__law_cell (startE 2 [true, true] ds)) = sp__law_cell ds := by
  intro ds h
  unfold sp__law_cell at h ⊢
  split at h
  · rename_i ns k
    split at h
    · rename_i k0
      simp only [f__law_cell, fSeq_eq, seqO_nx, seqO_rt, seqO_bk, seqO_ct, seqO_ex, seqO_bad, seqO_ite, fAft_eq, aftO_nx, aftO_rt, aftO_ex, aftO_bad, aftO_ite, endO_nx, endO_rt, endO_ex, endO_bad, endO_ite, goE_ite, bind_ite, eq_int, ne_int, ix_tup0, ix_tup1, ix_tup2, ix_tup3, ix_tup4, ix_lst0, ix_lst1, ix_lst2, ix_lst3, ix_lst4, fIfS, fAsg, fBef, frz1, fRet, fRetV, fDrop, fApp, fSetAt, fAug, fFor, fRaise, fNext, goE_ok, goE_ex, goE_bad, fTst, fB, fNeg, gNeg, gI, gI0, gB0, fVar, fC, fCB, fCons, fNil, fTup, fLst, fIf, fAnd, fOr, fNot, fAndV, fOrV, fNotV, fIsT, gIsT, D.ty, fChain, fSl, oI, ownAll, Cl.owned, Cl.toD, Cl.m, view, clB, R.bind_ok, R.bind_ex, R.bind_bad, okI, okB, asB, startE, argM, gCall_eq, callO_some, resC_ok, resC_ex, resC_bad, resC_ite, argD, arg1, gAbs, gInt, gGcd, gLen, gIsN, D.isN, mkTup, isIm, M.toD, M.toDs, M.pure, M.pures, gNm, iR1, iR2, iSq, itemsE, List.set_cons_zero, List.set_cons_succ, List.getElem?_cons_zero, List.getElem?_cons_succ, List.getElem?_nil, List.cons_append, List.nil_append, List.append_nil, List.length_cons, List.length_nil, List.replicate_succ, List.replicate_zero, List.set_nil, List.all_cons, List.all_nil, Bool.and_true, Bool.true_and, Bool.and_self, if_true, if_false, if_pos, Bool.false_eq_true, decide_true, decide_false, Nat.reduceAdd, Nat.reduceSub, ite_true, ite_false, Bool.not_true, Bool.not_false, kit_ii, kit_ib, kit_bb, kit_bi, kit_tt, kit_it, lenOk, smOk, Nat.reduceLeDiff, Nat.reduceLT, decide_eq_true_eq, Bool.and_eq_true, fTry_eq, tryO_nx, tryO_rt, tryO_bk, tryO_ct, tryO_ex, tryO_ite, fHd, fHdAs, calmO, calmO_ite, outI, outI_ite, fIs, isQ_exc, isQ_obj, isQ, isT2, fAt, gAt, fl_imE, fl_boE, fl_imO, fl_boO, fl_obj, fg_t, fg_f, imF, boF, fRaise, pures_ints, it_imL, it_imT, it_imF, it_boL, it_boT, it_boF, it_lst, it_tup, it_li, items_dl, List.map_cons, List.map_nil, toDs_ints, pures_ims, toDs_ims, li_pure, li_toD, ld_pure, ld_toD, k0, M.items, List.length_map, cellN]
      by_cases q : k < ns.length
      · simp only [q, if_true, ix_fz k0 q, okI, R.bind_ok, gInt, fSeq_eq, seqO_nx, seqO_rt, seqO_bk, seqO_ct, seqO_ex, seqO_bad, seqO_ite, fAft_eq, aftO_nx, aftO_rt, aftO_ex, aftO_bad, aftO_ite, endO_nx, endO_rt, endO_ex, endO_bad, endO_ite, goE_ite, bind_ite, eq_int, ne_int, ix_tup0, ix_tup1, ix_tup2, ix_tup3, ix_tup4, ix_lst0, ix_lst1, ix_lst2, ix_lst3, ix_lst4, fIfS, fAsg, fBef, frz1, fRet, fRetV, fDrop, fApp, fSetAt, fAug, fFor, fRaise, fNext, goE_ok, goE_ex, goE_bad, fTst, fB, fNeg, gNeg, gI, gI0, gB0, fVar, fC, fCB, fCons, fNil, fTup, fLst, fIf, fAnd, fOr, fNot, fAndV, fOrV, fNotV, fIsT, gIsT, D.ty, fChain, fSl, oI, ownAll, Cl.owned, Cl.toD, Cl.m, view, clB, R.bind_ok, R.bind_ex, R.bind_bad, okI, okB, asB, startE, argM, gCall_eq, callO_some, resC_ok, resC_ex, resC_bad, resC_ite, argD, arg1, gAbs, gInt, gGcd, gLen, gIsN, D.isN, mkTup, isIm, M.toD, M.toDs, M.pure, M.pures, gNm, iR1, iR2, iSq, itemsE, List.set_cons_zero, List.set_cons_succ, List.getElem?_cons_zero, List.getElem?_cons_succ, List.getElem?_nil, List.cons_append, List.nil_append, List.append_nil, List.length_cons, List.length_nil, List.replicate_succ, List.replicate_zero, List.set_nil, List.all_cons, List.all_nil, Bool.and_true, Bool.true_and, Bool.and_self, if_true, if_false, if_pos, Bool.false_eq_true, decide_true, decide_false, Nat.reduceAdd, Nat.reduceSub, ite_true, ite_false, Bool.not_true, Bool.not_false, kit_ii, kit_ib, kit_bb, kit_bi, kit_tt, kit_it, lenOk, smOk, Nat.reduceLeDiff, Nat.reduceLT, decide_eq_true_eq, Bool.and_eq_true, fTry_eq, tryO_nx, tryO_rt, tryO_bk, tryO_ct, tryO_ex, tryO_ite, fHd, fHdAs, calmO, calmO_ite, outI, outI_ite, fIs, isQ_exc, isQ_obj, isQ, isT2, fAt, gAt, fl_imE, fl_boE, fl_imO, fl_boO, fl_obj, fg_t, fg_f, imF, boF, fRaise, pures_ints, it_imL, it_imT, it_imF, it_boL, it_boT, it_boF, it_lst, it_tup, it_li, items_dl, List.map_cons, List.map_nil, toDs_ints, pures_ims, toDs_ims, li_pure, li_toD, ld_pure, ld_toD]
      · simp only [q, if_false]
    · exact absurd rfl h
  · exact absurd rfl h
end K0
set_option Elab.async false
set_option linter.all false
set_option maxRecDepth 100000
set_option maxHeartbeats 4000000
namespace K0
open PySem L2 NW
/-! ### numbers drawn -/
theorem fold_fst {α β : Type} (f : α → α) (g : Nat → β) : ∀ (l : List Nat) (a : α) (b : β), (l.foldl (fun (s : α × β) i => (f s.1, g i)) (a, b)).1 = l.foldl (fun s _ => f s) a
  | [], _, _ => rfl
  | x :: l, a, b => fold_fst f g l (f a) (g x)
theorem h__law_numbers : ∀ ds, sp__law_numbers ds ≠ .bad → endO (f__law_numbers (startE 6 [true, true] ds)) = sp__law_numbers ds := by
  intro ds h
  unfold sp__law_numbers at h ⊢
  split at h
  · rename_i c m
    split at h
    · rename_i hm
      let E : (Int × Int × List Int) × Option M → NW.Env := fun s => [some (.im (.int c)), some (.im (.int m)), some (.im (.int s.1.1)), some (.im (.int s.1.2.1)), some (.lst (s.1.2.2.map fun n => .im (.int n))), s.2]
      let step : (Int × Int × List Int) × Option M → Nat → (Int × Int × List Int) × Option M := fun s i => (numStep s.1, some (.im (.int (0 + (i : Int)))))
      have key := loop_range (g := gNm 5) (fb := b__law_numbers_0)
        E step (fun i s => s.1.2.2.length = i) 0 m.toNat (fun i s hi hp => by
          obtain ⟨⟨r, x, l⟩, k⟩ := s
          have hl : l.length = i := hp
          have hs : l.length < 100000 := by omega
          have d1 : ∀ a, divOk a 5040 = true := fun a => by unfold divOk; decide +kernel
          have d2 : ∀ a, divOk a 8 = true := fun a => by unfold divOk; decide +kernel
          have o1 : ∀ a, modOk a 5040 = true := fun a => rfl
          have o2 : ∀ a, modOk a 2147483647 = true := fun a => rfl
          have m1 : ∀ a, mulOk a 48271 = true := fun a => by unfold mulOk; rw [Bool.or_eq_true]; exact .inl (decide_eq_true (.inr (by decide)))
          refine ⟨?_, _, rfl, .inl ?_⟩
          · show (numStep (r, x, l)).2.2.length = i + 1
            unfold numStep; split <;> simp [hl]
          · simp only [E, step, b__law_numbers_0, fSeq_eq, seqO_nx, seqO_rt, seqO_bk, seqO_ct, seqO_ex, seqO_bad, seqO_ite, fAft_eq, aftO_nx, aftO_rt, aftO_ex, aftO_bad, aftO_ite, endO_nx, endO_rt, endO_ex, endO_bad, endO_ite, goE_ite, bind_ite, eq_int, ne_int, ix_tup0, ix_tup1, ix_tup2, ix_tup3, ix_tup4, ix_lst0, ix_lst1, ix_lst2, ix_lst3, ix_lst4, fIfS, fAsg, fBef, frz1, fRet, fRetV, fDrop, fApp, fSetAt, fAug, fFor, fRaise, fNext, goE_ok, goE_ex, goE_bad, fTst, fB, fNeg, gNeg, gI, gI0, gB0, fVar, fC, fCB, fCons, fNil, fTup, fLst, fIf, fAnd, fOr, fNot, fAndV, fOrV, fNotV, fIsT, gIsT, D.ty, fChain, fSl, oI, ownAll, Cl.owned, Cl.toD, Cl.m, view, clB, R.bind_ok, R.bind_ex, R.bind_bad, okI, okB, asB, startE, argM, gCall_eq, callO_some, resC_ok, resC_ex, resC_bad, resC_ite, argD, arg1, gAbs, gInt, gGcd, gLen, gIsN, D.isN, mkTup, isIm, M.toD, M.toDs, M.pure, M.pures, gNm, iR1, iR2, iSq, itemsE, List.set_cons_zero, List.set_cons_succ, List.getElem?_cons_zero, List.getElem?_cons_succ, List.getElem?_nil, List.cons_append, List.nil_append, List.append_nil, List.length_cons, List.length_nil, List.replicate_succ, List.replicate_zero, List.set_nil, List.all_cons, List.all_nil, Bool.and_true, Bool.true_and, Bool.and_self, if_true, if_false, if_pos, Bool.false_eq_true, decide_true, decide_false, Nat.reduceAdd, Nat.reduceSub, ite_true, ite_false, Bool.not_true, Bool.not_false, kit_ii, kit_ib, kit_bb, kit_bi, kit_tt, kit_it, lenOk, smOk, Nat.reduceLeDiff, Nat.reduceLT, decide_eq_true_eq, Bool.and_eq_true, fTry_eq, tryO_nx, tryO_rt, tryO_bk, tryO_ct, tryO_ex, tryO_ite, fHd, fHdAs, calmO, calmO_ite, outI, outI_ite, fIs, isQ_exc, isQ_obj, isQ, isT2, fAt, gAt, fl_imE, fl_boE, fl_imO, fl_boO, fl_obj, fg_t, fg_f, imF, boF, fRaise, pures_ints, it_imL, it_imT, it_imF, it_boL, it_boT, it_boF, it_lst, it_tup, it_li, items_dl, List.map_cons, List.map_nil, toDs_ints, pures_ims, toDs_ims, li_pure, li_toD, ld_pure, ld_toD, d1, d2, o1, o2, m1, List.length_map, hs, numStep]
            by_cases q : 0 < r
            · simp only [q, if_true, List.map_append, List.map_cons, List.map_nil]
            · simp only [q, if_false, List.map_append, List.map_cons, List.map_nil]) ((numStart c), none) rfl
      have o2 : ∀ a, modOk a 2147483647 = true := fun a => rfl
      have m1 : ∀ a, mulOk a 48271 = true := fun a => by unfold mulOk; rw [Bool.or_eq_true]; exact .inl (decide_eq_true (.inr (by decide)))
      have p1 : powOk 10 18 = true := by decide +kernel
      have si : smI m = true := decide_eq_true ⟨by omega, by omega⟩
      simp only [f__law_numbers, fSeq_eq, seqO_nx, seqO_rt, seqO_bk, seqO_ct, seqO_ex, seqO_bad, seqO_ite, fAft_eq, aftO_nx, aftO_rt, aftO_ex, aftO_bad, aftO_ite, endO_nx, endO_rt, endO_ex, endO_bad, endO_ite, goE_ite, bind_ite, eq_int, ne_int, ix_tup0, ix_tup1, ix_tup2, ix_tup3, ix_tup4, ix_lst0, ix_lst1, ix_lst2, ix_lst3, ix_lst4, fIfS, fAsg, fBef, frz1, fRet, fRetV, fDrop, fApp, fSetAt, fAug, fFor, fRaise, fNext, goE_ok, goE_ex, goE_bad, fTst, fB, fNeg, gNeg, gI, gI0, gB0, fVar, fC, fCB, fCons, fNil, fTup, fLst, fIf, fAnd, fOr, fNot, fAndV, fOrV, fNotV, fIsT, gIsT, D.ty, fChain, fSl, oI, ownAll, Cl.owned, Cl.toD, Cl.m, view, clB, R.bind_ok, R.bind_ex, R.bind_bad, okI, okB, asB, startE, argM, gCall_eq, callO_some, resC_ok, resC_ex, resC_bad, resC_ite, argD, arg1, gAbs, gInt, gGcd, gLen, gIsN, D.isN, mkTup, isIm, M.toD, M.toDs, M.pure, M.pures, gNm, iR1, iR2, iSq, itemsE, List.set_cons_zero, List.set_cons_succ, List.getElem?_cons_zero, List.getElem?_cons_succ, List.getElem?_nil, List.cons_append, List.nil_append, List.append_nil, List.length_cons, List.length_nil, List.replicate_succ, List.replicate_zero, List.set_nil, List.all_cons, List.all_nil, Bool.and_true, Bool.true_and, Bool.and_self, if_true, if_false, if_pos, Bool.false_eq_true, decide_true, decide_false, Nat.reduceAdd, Nat.reduceSub, ite_true, ite_false, Bool.not_true, Bool.not_false, kit_ii, kit_ib, kit_bb, kit_bi, kit_tt, kit_it, lenOk, smOk, Nat.reduceLeDiff, Nat.reduceLT, decide_eq_true_eq, Bool.and_eq_true, fTry_eq, tryO_nx, tryO_rt, tryO_bk, tryO_ct, tryO_ex, tryO_ite, fHd, fHdAs, calmO, calmO_ite, outI, outI_ite, fIs, isQ_exc, isQ_obj, isQ, isT2, fAt, gAt, fl_imE, fl_boE, fl_imO, fl_boO, fl_obj, fg_t, fg_f, imF, boF, fRaise, pures_ints, it_imL, it_imT, it_imF, it_boL, it_boT, it_boF, it_lst, it_tup, it_li, items_dl, List.map_cons, List.map_nil, toDs_ints, pures_ims, toDs_ims, li_pure, li_toD, ld_pure, ld_toD, o2, m1, p1, si, hm, T18_eq]
      have ab : (if c < 0 then -c else c) = (c.natAbs : Int) := by omega
      rw [ab]
      have fin : endO (seqO (loop (gNm 5) b__law_numbers_0 (rgItems 0 m.toNat) (E (numStart c, none))) (fRetV 4)) = .ok (li (numbers c m.toNat)) := by
        rw [key]
        have e2 := fold_fst numStep (fun i : Nat => some (M.im (.int (0 + (i : Int))))) (List.range m.toNat) (numStart c) none
        simp only [E, fSeq_eq, seqO_nx, seqO_rt, seqO_bk, seqO_ct, seqO_ex, seqO_bad, seqO_ite, fAft_eq, aftO_nx, aftO_rt, aftO_ex, aftO_bad, aftO_ite, endO_nx, endO_rt, endO_ex, endO_bad, endO_ite, goE_ite, bind_ite, eq_int, ne_int, ix_tup0, ix_tup1, ix_tup2, ix_tup3, ix_tup4, ix_lst0, ix_lst1, ix_lst2, ix_lst3, ix_lst4, fIfS, fAsg, fBef, frz1, fRet, fRetV, fDrop, fApp, fSetAt, fAug, fFor, fRaise, fNext, goE_ok, goE_ex, goE_bad, fTst, fB, fNeg, gNeg, gI, gI0, gB0, fVar, fC, fCB, fCons, fNil, fTup, fLst, fIf, fAnd, fOr, fNot, fAndV, fOrV, fNotV, fIsT, gIsT, D.ty, fChain, fSl, oI, ownAll, Cl.owned, Cl.toD, Cl.m, view, clB, R.bind_ok, R.bind_ex, R.bind_bad, okI, okB, asB, startE, argM, gCall_eq, callO_some, resC_ok, resC_ex, resC_bad, resC_ite, argD, arg1, gAbs, gInt, gGcd, gLen, gIsN, D.isN, mkTup, isIm, M.toD, M.toDs, M.pure, M.pures, gNm, iR1, iR2, iSq, itemsE, List.set_cons_zero, List.set_cons_succ, List.getElem?_cons_zero, List.getElem?_cons_succ, List.getElem?_nil, List.cons_append, List.nil_append, List.append_nil, List.length_cons, List.length_nil, List.replicate_succ, List.replicate_zero, List.set_nil, List.all_cons, List.all_nil, Bool.and_true, Bool.true_and, Bool.and_self, if_true, if_false, if_pos, Bool.false_eq_true, decide_true, decide_false, Nat.reduceAdd, Nat.reduceSub, ite_true, ite_false, Bool.not_true, Bool.not_false, kit_ii, kit_ib, kit_bb, kit_bi, kit_tt, kit_it, lenOk, smOk, Nat.reduceLeDiff, Nat.reduceLT, decide_eq_true_eq, Bool.and_eq_true, fTry_eq, tryO_nx, tryO_rt, tryO_bk, tryO_ct, tryO_ex, tryO_ite, fHd, fHdAs, calmO, calmO_ite, outI, outI_ite, fIs, isQ_exc, isQ_obj, isQ, isT2, fAt, gAt, fl_imE, fl_boE, fl_imO, fl_boO, fl_obj, fg_t, fg_f, imF, boF, fRaise, pures_ints, it_imL, it_imT, it_imF, it_boL, it_boT, it_boF, it_lst, it_tup, it_li, items_dl, List.map_cons, List.map_nil, toDs_ints, pures_ims, toDs_ims, li_pure, li_toD, ld_pure, ld_toD]
        show R.ok (li _) = R.ok (li _)
        unfold numbers
        rw [← e2]
      unfold numStart at fin
      by_cases q : (c.natAbs : Int) < T18
      · rw [if_pos q] at fin
        simp only [q, if_true]
        exact fin
      · rw [if_neg q] at fin
        simp only [q, if_false]
        exact fin
    · exact absurd rfl h
  · exact absurd rfl h
end K0
set_option Elab.async false
set_option linter.all false
set_option maxRecDepth 100000
set_option maxHeartbeats 4000000
set_option exponentiation.threshold 5000
namespace K0
open PySem L2 NW
theorem absN (c : Int) : (if c < 0 then -c else c) = (c.natAbs : Int) := by omega
theorem foldl_len (l : List Nat) (s : Int × Int × List Int) : (l.foldl (fun s _ => numStep s) s).2.2.length = s.2.2.length + l.length := by
  induction l generalizing s with
  | nil => rfl
  | cons x l ih =>
    rw [List.foldl_cons, ih, List.length_cons]
    have : (numStep s).2.2.length = s.2.2.length + 1 := by unfold numStep; split <;> simp
    omega
theorem numbers_len (c : Int) (n : Nat) : (numbers c n).length = n := by
  unfold numbers; rw [foldl_len, List.length_range]; unfold numStart; simp
theorem foldl_range (l : List Nat) (s : Int × Int × List Int) (h : ∀ x ∈ s.2.2, 0 ≤ x ∧ x < 5040) : ∀ x ∈ (l.foldl (fun s _ => numStep s) s).2.2, 0 ≤ x ∧ x < 5040 := by
  induction l generalizing s with
  | nil => exact h
  | cons y l ih =>
    rw [List.foldl_cons]
    refine ih _ ?_
    intro x hx
    unfold numStep at hx
    split at hx
    · simp only [List.mem_append, List.mem_singleton] at hx
      rcases hx with hx | hx
      · exact h x hx
      · subst hx; omega
    · simp only [List.mem_append, List.mem_singleton] at hx
      rcases hx with hx | hx
      · exact h x hx
      · subst hx; omega
theorem numbers_range (c : Int) (n : Nat) : ∀ x ∈ numbers c n, 0 ≤ x ∧ x < 5040 := foldl_range _ _ (by intro x hx; unfold numStart at hx; simp at hx)
theorem numbers_at (c : Int) (n k : Nat) : 0 ≤ (numbers c n).getD k 0 ∧ (numbers c n).getD k 0 < 5040 := by
  rw [List.getD_eq_getElem?_getD]
  by_cases h : k < (numbers c n).length
  · rw [List.getElem?_eq_getElem h]; exact numbers_range c n _ (List.getElem_mem h)
  · rw [List.getElem?_eq_none (by omega)]; decide
theorem numbers_eq (c m : Int) (h0 : 0 ≤ m) (h : m ≤ 1000) : sp__law_numbers [.int c, .int m] = .ok (li (numbers c m.toNat)) := by
  show (if 0 ≤ m ∧ m ≤ 1000 then _ else _) = _
  rw [if_pos ⟨h0, h⟩]
theorem smI_of {i : Int} (h0 : 0 ≤ i) (h : i ≤ 1000000) : smI i = true := decide_eq_true ⟨by omega, by omega⟩
theorem pow18 : fPow (fC (.int 10)) (fC (.int 18)) = fC (.int T18) := by
  funext env
  have p1 : powOk 10 18 = true := by decide +kernel
  simp only [fSeq_eq, seqO_nx, seqO_rt, seqO_bk, seqO_ct, seqO_ex, seqO_bad, seqO_ite, fAft_eq, aftO_nx, aftO_rt, aftO_ex, aftO_bad, aftO_ite, endO_nx, endO_rt, endO_ex, endO_bad, endO_ite, goE_ite, bind_ite, eq_int, ne_int, ix_tup0, ix_tup1, ix_tup2, ix_tup3, ix_tup4, ix_lst0, ix_lst1, ix_lst2, ix_lst3, ix_lst4, fIfS, fAsg, fBef, frz1, fRet, fRetV, fDrop, fApp, fSetAt, fAug, fFor, fRaise, fNext, goE_ok, goE_ex, goE_bad, fTst, fB, fNeg, gNeg, gI, gI0, gB0, fVar, fC, fCB, fCons, fNil, fTup, fLst, fIf, fAnd, fOr, fNot, fAndV, fOrV, fNotV, fIsT, gIsT, D.ty, fChain, fSl, oI, ownAll, Cl.owned, Cl.toD, Cl.m, view, clB, R.bind_ok, R.bind_ex, R.bind_bad, okI, okB, asB, startE, argM, gCall_eq, callO_some, resC_ok, resC_ex, resC_bad, resC_ite, argD, arg1, gAbs, gInt, gGcd, gLen, gIsN, D.isN, mkTup, isIm, M.toD, M.toDs, M.pure, M.pures, gNm, iR1, iR2, iSq, itemsE, List.set_cons_zero, List.set_cons_succ, List.getElem?_cons_zero, List.getElem?_cons_succ, List.getElem?_nil, List.cons_append, List.nil_append, List.append_nil, List.length_cons, List.length_nil, List.replicate_succ, List.replicate_zero, List.set_nil, List.all_cons, List.all_nil, Bool.and_true, Bool.true_and, Bool.and_self, if_true, if_false, if_pos, Bool.false_eq_true, decide_true, decide_false, Nat.reduceAdd, Nat.reduceSub, ite_true, ite_false, Bool.not_true, Bool.not_false, kit_ii, kit_ib, kit_bb, kit_bi, kit_tt, kit_it, lenOk, smOk, Nat.reduceLeDiff, Nat.reduceLT, decide_eq_true_eq, Bool.and_eq_true, fTry_eq, tryO_nx, tryO_rt, tryO_bk, tryO_ct, tryO_ex, tryO_ite, fHd, fHdAs, calmO, calmO_ite, outI, outI_ite, fIs, isQ_exc, isQ_obj, isQ, isT2, fAt, gAt, fl_imE, fl_boE, fl_imO, fl_boO, fl_obj, fg_t, fg_f, imF, boF, fRaise, pures_ints, it_imL, it_imT, it_imF, it_boL, it_boT, it_boF, it_lst, it_tup, it_li, items_dl, List.map_cons, List.map_nil, toDs_ints, pures_ims, toDs_ims, li_pure, li_toD, ld_pure, ld_toD, p1, T18_eq]
def F0_large (T : Int) (g : List NW.D → R M) : NW.Env → Out := (fSeq (fAsg 2 (fCB gAbs (fCons (fVar 0) fNil)))
    (fSeq (fIfS (fTst (fGe (fVar 2) (fC (.int T)))) (fRet (fMod (fCB gInt (fCons (fVar 2) fNil)) (fAdd (fVar 1) (fC (.int 1))))) fNext)
    (fSeq (fAft 3 (fAsg 3 (fCB (gCall [true, true] g) (fCons (fVar 0) (fCons (fC (.int 18)) fNil)))))
    (fSeq (fAsg 4 (fC (.int 0)))
    (fSeq (fFor (iR1 (fMod (fCB gInt (fCons (fIx (fVar 3) (fC (.int 0))) fNil)) (fC (.int 18)))) (gNm 5) b__law_large_0)
    (fRet (fMod (fCB gInt (fCons (fVar 4) fNil)) (fAdd (fVar 1) (fC (.int 1))))))))))
def Z_large (T a m : Int) (ns : List Int) : Int := if T ≤ a then a % (m + 1) else ((List.range (ns.getD 0 0 % 18).toNat).foldl (fun t k => t * 5040 + ns.getD (k + 1) 0) 0) % (m + 1)
theorem large_body (T c m : Int) (g : List NW.D → R M) (ns : List Int) (hm : 0 ≤ m) (ne : g [.int c, .int 18] = .ok (li ns)) (nl : (ns.length : Int) = 18) (n0 : 0 ≤ ns.getD 0 0 ∧ ns.getD 0 0 < 5040) (Z : R M) (hZ : R.ok (.im (.int (Z_large T (c.natAbs : Int) m ns))) = Z) :
    endO (F0_large T g (startE 6 [true, true] [.int c, .int m])) = Z := by
  have o1 : ∀ a, modOk a (m + 1) = true := fun a => decide_eq_true (by omega)
  have o2 : ∀ a, modOk a 18 = true := fun a => rfl
  have m1 : ∀ a, mulOk a 5040 = true := fun a => by unfold mulOk; rw [Bool.or_eq_true]; exact .inl (decide_eq_true (.inr (by decide)))
  have i0 : gIx (.own (.im (dl ns))) (.own (.im (.int 0))) = okI (ns.getD 0 0) := ix_dl (by decide) (by omega)
  unfold F0_large
  simp only [fSeq_eq, seqO_nx, seqO_rt, seqO_bk, seqO_ct, seqO_ex, seqO_bad, seqO_ite, fAft_eq, aftO_nx, aftO_rt, aftO_ex, aftO_bad, aftO_ite, endO_nx, endO_rt, endO_ex, endO_bad, endO_ite, goE_ite, bind_ite, eq_int, ne_int, ix_tup0, ix_tup1, ix_tup2, ix_tup3, ix_tup4, ix_lst0, ix_lst1, ix_lst2, ix_lst3, ix_lst4, fIfS, fAsg, fBef, frz1, fRet, fRetV, fDrop, fApp, fSetAt, fAug, fFor, fRaise, fNext, goE_ok, goE_ex, goE_bad, fTst, fB, fNeg, gNeg, gI, gI0, gB0, fVar, fC, fCB, fCons, fNil, fTup, fLst, fIf, fAnd, fOr, fNot, fAndV, fOrV, fNotV, fIsT, gIsT, D.ty, fChain, fSl, oI, ownAll, Cl.owned, Cl.toD, Cl.m, view, clB, R.bind_ok, R.bind_ex, R.bind_bad, okI, okB, asB, startE, argM, gCall_eq, callO_some, resC_ok, resC_ex, resC_bad, resC_ite, argD, arg1, gAbs, gInt, gGcd, gLen, gIsN, D.isN, mkTup, isIm, M.toD, M.toDs, M.pure, M.pures, gNm, iR1, iR2, iSq, itemsE, List.set_cons_zero, List.set_cons_succ, List.getElem?_cons_zero, List.getElem?_cons_succ, List.getElem?_nil, List.cons_append, List.nil_append, List.append_nil, List.length_cons, List.length_nil, List.replicate_succ, List.replicate_zero, List.set_nil, List.all_cons, List.all_nil, Bool.and_true, Bool.true_and, Bool.and_self, if_true, if_false, if_pos, Bool.false_eq_true, decide_true, decide_false, Nat.reduceAdd, Nat.reduceSub, ite_true, ite_false, Bool.not_true, Bool.not_false, kit_ii, kit_ib, kit_bb, kit_bi, kit_tt, kit_it, lenOk, smOk, Nat.reduceLeDiff, Nat.reduceLT, decide_eq_true_eq, Bool.and_eq_true, fTry_eq, tryO_nx, tryO_rt, tryO_bk, tryO_ct, tryO_ex, tryO_ite, fHd, fHdAs, calmO, calmO_ite, outI, outI_ite, fIs, isQ_exc, isQ_obj, isQ, isT2, fAt, gAt, fl_imE, fl_boE, fl_imO, fl_boO, fl_obj, fg_t, fg_f, imF, boF, fRaise, pures_ints, it_imL, it_imT, it_imF, it_boL, it_boT, it_boF, it_lst, it_tup, it_li, items_dl, List.map_cons, List.map_nil, toDs_ints, pures_ims, toDs_ims, li_pure, li_toD, ld_pure, ld_toD, absN, o1, hm, ne, i0, o2, smI_of (show 0 ≤ ns.getD 0 0 % 18 by omega) (show ns.getD 0 0 % 18 ≤ 1000000 by omega)]
  by_cases q : T ≤ (c.natAbs : Int)
  · rw [← hZ, Z_large, if_pos q]; simp only [q, if_true]
  · simp only [q, if_false]
    let E : Int × Option M → NW.Env := fun s => [some (.im (.int c)), some (.im (.int m)), some (.im (.int (c.natAbs : Int))), some (.im (dl ns)), some (.im (.int s.1)), s.2]
    let step : Int × Option M → Nat → Int × Option M := fun s k => (s.1 * 5040 + ns.getD (k + 1) 0, some (.im (.int (0 + (k : Int)))))
    have key := loop_range (g := gNm 5) (fb := b__law_large_0) E step (fun _ _ => True) 0 (ns.getD 0 0 % 18).toNat (fun k s hk _ => by
      refine ⟨trivial, _, rfl, .inl ?_⟩
      have i1 : gIx (.own (.im (dl ns))) (.own (.im (.int (0 + (k : Int) + 1)))) = okI (ns.getD (k + 1) 0) := by
        have : (0 + (k : Int) + 1) = ((k + 1 : Nat) : Int) := by omega
        rw [this, ix_dl (by omega) (by omega)]; rfl
      simp only [E, step, b__law_large_0, fSeq_eq, seqO_nx, seqO_rt, seqO_bk, seqO_ct, seqO_ex, seqO_bad, seqO_ite, fAft_eq, aftO_nx, aftO_rt, aftO_ex, aftO_bad, aftO_ite, endO_nx, endO_rt, endO_ex, endO_bad, endO_ite, goE_ite, bind_ite, eq_int, ne_int, ix_tup0, ix_tup1, ix_tup2, ix_tup3, ix_tup4, ix_lst0, ix_lst1, ix_lst2, ix_lst3, ix_lst4, fIfS, fAsg, fBef, frz1, fRet, fRetV, fDrop, fApp, fSetAt, fAug, fFor, fRaise, fNext, goE_ok, goE_ex, goE_bad, fTst, fB, fNeg, gNeg, gI, gI0, gB0, fVar, fC, fCB, fCons, fNil, fTup, fLst, fIf, fAnd, fOr, fNot, fAndV, fOrV, fNotV, fIsT, gIsT, D.ty, fChain, fSl, oI, ownAll, Cl.owned, Cl.toD, Cl.m, view, clB, R.bind_ok, R.bind_ex, R.bind_bad, okI, okB, asB, startE, argM, gCall_eq, callO_some, resC_ok, resC_ex, resC_bad, resC_ite, argD, arg1, gAbs, gInt, gGcd, gLen, gIsN, D.isN, mkTup, isIm, M.toD, M.toDs, M.pure, M.pures, gNm, iR1, iR2, iSq, itemsE, List.set_cons_zero, List.set_cons_succ, List.getElem?_cons_zero, List.getElem?_cons_succ, List.getElem?_nil, List.cons_append, List.nil_append, List.append_nil, List.length_cons, List.length_nil, List.replicate_succ, List.replicate_zero, List.set_nil, List.all_cons, List.all_nil, Bool.and_true, Bool.true_and, Bool.and_self, if_true, if_false, if_pos, Bool.false_eq_true, decide_true, decide_false, Nat.reduceAdd, Nat.reduceSub, ite_true, ite_false, Bool.not_true, Bool.not_false, kit_ii, kit_ib, kit_bb, kit_bi, kit_tt, kit_it, lenOk, smOk, Nat.reduceLeDiff, Nat.reduceLT, decide_eq_true_eq, Bool.and_eq_true, fTry_eq, tryO_nx, tryO_rt, tryO_bk, tryO_ct, tryO_ex, tryO_ite, fHd, fHdAs, calmO, calmO_ite, outI, outI_ite, fIs, isQ_exc, isQ_obj, isQ, isT2, fAt, gAt, fl_imE, fl_boE, fl_imO, fl_boO, fl_obj, fg_t, fg_f, imF, boF, fRaise, pures_ints, it_imL, it_imT, it_imF, it_boL, it_boT, it_boF, it_lst, it_tup, it_li, items_dl, List.map_cons, List.map_nil, toDs_ints, pures_ims, toDs_ims, li_pure, li_toD, ld_pure, ld_toD, m1, i1]) (0, none) trivial
    have fs : ∀ (l : List Nat) (a : Int) (b : Option M), (l.foldl step (a, b)).1 = l.foldl (fun t k => t * 5040 + ns.getD (k + 1) 0) a := by
      intro l
      induction l with
      | nil => intro a b; rfl
      | cons x l ih => intro a b; exact ih _ _
    have : (E (0, none)) = [some (.im (.int c)), some (.im (.int m)), some (.im (.int (c.natAbs : Int))), some (.im (dl ns)), some (.im (.int 0)), none] := rfl
    rw [← this, key, ← hZ, Z_large, if_neg q]
    simp only [E, fSeq_eq, seqO_nx, seqO_rt, seqO_bk, seqO_ct, seqO_ex, seqO_bad, seqO_ite, fAft_eq, aftO_nx, aftO_rt, aftO_ex, aftO_bad, aftO_ite, endO_nx, endO_rt, endO_ex, endO_bad, endO_ite, goE_ite, bind_ite, eq_int, ne_int, ix_tup0, ix_tup1, ix_tup2, ix_tup3, ix_tup4, ix_lst0, ix_lst1, ix_lst2, ix_lst3, ix_lst4, fIfS, fAsg, fBef, frz1, fRet, fRetV, fDrop, fApp, fSetAt, fAug, fFor, fRaise, fNext, goE_ok, goE_ex, goE_bad, fTst, fB, fNeg, gNeg, gI, gI0, gB0, fVar, fC, fCB, fCons, fNil, fTup, fLst, fIf, fAnd, fOr, fNot, fAndV, fOrV, fNotV, fIsT, gIsT, D.ty, fChain, fSl, oI, ownAll, Cl.owned, Cl.toD, Cl.m, view, clB, R.bind_ok, R.bind_ex, R.bind_bad, okI, okB, asB, startE, argM, gCall_eq, callO_some, resC_ok, resC_ex, resC_bad, resC_ite, argD, arg1, gAbs, gInt, gGcd, gLen, gIsN, D.isN, mkTup, isIm, M.toD, M.toDs, M.pure, M.pures, gNm, iR1, iR2, iSq, itemsE, List.set_cons_zero, List.set_cons_succ, List.getElem?_cons_zero, List.getElem?_cons_succ, List.getElem?_nil, List.cons_append, List.nil_append, List.append_nil, List.length_cons, List.length_nil, List.replicate_succ, List.replicate_zero, List.set_nil, List.all_cons, List.all_nil, Bool.and_true, Bool.true_and, Bool.and_self, if_true, if_false, if_pos, Bool.false_eq_true, decide_true, decide_false, Nat.reduceAdd, Nat.reduceSub, ite_true, ite_false, Bool.not_true, Bool.not_false, kit_ii, kit_ib, kit_bb, kit_bi, kit_tt, kit_it, lenOk, smOk, Nat.reduceLeDiff, Nat.reduceLT, decide_eq_true_eq, Bool.and_eq_true, fTry_eq, tryO_nx, tryO_rt, tryO_bk, tryO_ct, tryO_ex, tryO_ite, fHd, fHdAs, calmO, calmO_ite, outI, outI_ite, fIs, isQ_exc, isQ_obj, isQ, isT2, fAt, gAt, fl_imE, fl_boE, fl_imO, fl_boO, fl_obj, fg_t, fg_f, imF, boF, fRaise, pures_ints, it_imL, it_imT, it_imF, it_boL, it_boT, it_boF, it_lst, it_tup, it_li, items_dl, List.map_cons, List.map_nil, toDs_ints, pures_ims, toDs_ims, li_pure, li_toD, ld_pure, ld_toD, o1, fs]
theorem large_eq : f__law_large = F0_large T18 sp__law_numbers := by unfold f__law_large F0_large; rw [pow18]
theorem h__law_large : ∀ ds, sp__law_large ds ≠ .bad → endO (f__law_large (startE 6 [true, true] ds)) = sp__law_large ds := by
  intro ds h
  unfold sp__law_large at h ⊢
  split at h
  · rename_i c m
    split at h
    · rename_i hm
      have ne := numbers_eq c 18 (by decide) (by decide)
      have nl : ((numbers c 18).length : Int) = 18 := by rw [numbers_len]; rfl
      rw [large_eq]
      refine large_body T18 c m sp__law_numbers (numbers c 18) hm ne nl (numbers_at c 18 0) _ ?_
      show _ = if 0 ≤ m then R.ok (M.im (.int (largeN c m))) else .bad
      rw [if_pos hm]; unfold largeN Z_large; rfl
    · exact absurd rfl h
  · exact absurd rfl h
/-! ### the common divisor -/
theorem common_loop : ∀ (k : Nat) (xs : List M), xs.all leaf = true → ∀ (a b : Nat), b < 2 ^ k → 2 * k + 1 ≤ xs.length → ∀ s0 s1 s4 s5 : Option M,
    loop (gNm 4) b__law_common_0 xs [s0, s1, some (.im (.int (a : Int))), some (.im (.int (b : Int))), s4, s5] = .rt (.im (.int ((Nat.gcd a b : Nat) : Int))) := by
  have stop : ∀ (x : M) (xs : List M), leaf x = true → ∀ (a : Nat) (s0 s1 s4 s5 : Option M), loop (gNm 4) b__law_common_0 (x :: xs) [s0, s1, some (.im (.int (a : Int))), some (.im (.int 0)), s4, s5] = .rt (.im (.int (a : Int))) := by
    intro x xs hx a s0 s1 s4 s5
    rw [loop, if_pos hx]
    simp only [b__law_common_0, fSeq_eq, seqO_nx, seqO_rt, seqO_bk, seqO_ct, seqO_ex, seqO_bad, seqO_ite, fAft_eq, aftO_nx, aftO_rt, aftO_ex, aftO_bad, aftO_ite, endO_nx, endO_rt, endO_ex, endO_bad, endO_ite, goE_ite, bind_ite, eq_int, ne_int, ix_tup0, ix_tup1, ix_tup2, ix_tup3, ix_tup4, ix_lst0, ix_lst1, ix_lst2, ix_lst3, ix_lst4, fIfS, fAsg, fBef, frz1, fRet, fRetV, fDrop, fApp, fSetAt, fAug, fFor, fRaise, fNext, goE_ok, goE_ex, goE_bad, fTst, fB, fNeg, gNeg, gI, gI0, gB0, fVar, fC, fCB, fCons, fNil, fTup, fLst, fIf, fAnd, fOr, fNot, fAndV, fOrV, fNotV, fIsT, gIsT, D.ty, fChain, fSl, oI, ownAll, Cl.owned, Cl.toD, Cl.m, view, clB, R.bind_ok, R.bind_ex, R.bind_bad, okI, okB, asB, startE, argM, gCall_eq, callO_some, resC_ok, resC_ex, resC_bad, resC_ite, argD, arg1, gAbs, gInt, gGcd, gLen, gIsN, D.isN, mkTup, isIm, M.toD, M.toDs, M.pure, M.pures, gNm, iR1, iR2, iSq, itemsE, List.set_cons_zero, List.set_cons_succ, List.getElem?_cons_zero, List.getElem?_cons_succ, List.getElem?_nil, List.cons_append, List.nil_append, List.append_nil, List.length_cons, List.length_nil, List.replicate_succ, List.replicate_zero, List.set_nil, List.all_cons, List.all_nil, Bool.and_true, Bool.true_and, Bool.and_self, if_true, if_false, if_pos, Bool.false_eq_true, decide_true, decide_false, Nat.reduceAdd, Nat.reduceSub, ite_true, ite_false, Bool.not_true, Bool.not_false, kit_ii, kit_ib, kit_bb, kit_bi, kit_tt, kit_it, lenOk, smOk, Nat.reduceLeDiff, Nat.reduceLT, decide_eq_true_eq, Bool.and_eq_true, fTry_eq, tryO_nx, tryO_rt, tryO_bk, tryO_ct, tryO_ex, tryO_ite, fHd, fHdAs, calmO, calmO_ite, outI, outI_ite, fIs, isQ_exc, isQ_obj, isQ, isT2, fAt, gAt, fl_imE, fl_boE, fl_imO, fl_boO, fl_obj, fg_t, fg_f, imF, boF, fRaise, pures_ints, it_imL, it_imT, it_imF, it_boL, it_boT, it_boF, it_lst, it_tup, it_li, items_dl, List.map_cons, List.map_nil, toDs_ints, pures_ims, toDs_ims, li_pure, li_toD, ld_pure, ld_toD]
  have turn : ∀ (x : M) (xs : List M), leaf x = true → ∀ (a b : Nat), 0 < b → ∀ (s0 s1 s4 s5 : Option M), loop (gNm 4) b__law_common_0 (x :: xs) [s0, s1, some (.im (.int (a : Int))), some (.im (.int (b : Int))), s4, s5] =
      loop (gNm 4) b__law_common_0 xs [s0, s1, some (.im (.int (b : Int))), some (.im (.int ((a % b : Nat) : Int))), some x, some (.im (.int ((a % b : Nat) : Int)))] := by
    intro x xs hx a b hb s0 s1 s4 s5
    rw [loop, if_pos hx]
    have b0 : ¬ ((b : Int) = 0) := by omega
    have o1 : modOk (a : Int) (b : Int) = true := decide_eq_true (by omega)
    have e : (a : Int) % (b : Int) = ((a % b : Nat) : Int) := rfl
    simp only [b__law_common_0, fSeq_eq, seqO_nx, seqO_rt, seqO_bk, seqO_ct, seqO_ex, seqO_bad, seqO_ite, fAft_eq, aftO_nx, aftO_rt, aftO_ex, aftO_bad, aftO_ite, endO_nx, endO_rt, endO_ex, endO_bad, endO_ite, goE_ite, bind_ite, eq_int, ne_int, ix_tup0, ix_tup1, ix_tup2, ix_tup3, ix_tup4, ix_lst0, ix_lst1, ix_lst2, ix_lst3, ix_lst4, fIfS, fAsg, fBef, frz1, fRet, fRetV, fDrop, fApp, fSetAt, fAug, fFor, fRaise, fNext, goE_ok, goE_ex, goE_bad, fTst, fB, fNeg, gNeg, gI, gI0, gB0, fVar, fC, fCB, fCons, fNil, fTup, fLst, fIf, fAnd, fOr, fNot, fAndV, fOrV, fNotV, fIsT, gIsT, D.ty, fChain, fSl, oI, ownAll, Cl.owned, Cl.toD, Cl.m, view, clB, R.bind_ok, R.bind_ex, R.bind_bad, okI, okB, asB, startE, argM, gCall_eq, callO_some, resC_ok, resC_ex, resC_bad, resC_ite, argD, arg1, gAbs, gInt, gGcd, gLen, gIsN, D.isN, mkTup, isIm, M.toD, M.toDs, M.pure, M.pures, gNm, iR1, iR2, iSq, itemsE, List.set_cons_zero, List.set_cons_succ, List.getElem?_cons_zero, List.getElem?_cons_succ, List.getElem?_nil, List.cons_append, List.nil_append, List.append_nil, List.length_cons, List.length_nil, List.replicate_succ, List.replicate_zero, List.set_nil, List.all_cons, List.all_nil, Bool.and_true, Bool.true_and, Bool.and_self, if_true, if_false, if_pos, Bool.false_eq_true, decide_true, decide_false, Nat.reduceAdd, Nat.reduceSub, ite_true, ite_false, Bool.not_true, Bool.not_false, kit_ii, kit_ib, kit_bb, kit_bi, kit_tt, kit_it, lenOk, smOk, Nat.reduceLeDiff, Nat.reduceLT, decide_eq_true_eq, Bool.and_eq_true, fTry_eq, tryO_nx, tryO_rt, tryO_bk, tryO_ct, tryO_ex, tryO_ite, fHd, fHdAs, calmO, calmO_ite, outI, outI_ite, fIs, isQ_exc, isQ_obj, isQ, isT2, fAt, gAt, fl_imE, fl_boE, fl_imO, fl_boO, fl_obj, fg_t, fg_f, imF, boF, fRaise, pures_ints, it_imL, it_imT, it_imF, it_boL, it_boT, it_boF, it_lst, it_tup, it_li, items_dl, List.map_cons, List.map_nil, toDs_ints, pures_ims, toDs_ims, li_pure, li_toD, ld_pure, ld_toD, b0, o1, e]
  intro k
  induction k with
  | zero =>
    intro xs hl a b hb hx s0 s1 s4 s5
    have : b = 0 := by simpa using hb
    subst this
    cases xs with
    | nil => simp at hx
    | cons x xs => rw [List.all_cons, Bool.and_eq_true] at hl; rw [Nat.gcd_zero_right]; exact stop x xs hl.1 a s0 s1 s4 s5
  | succ k ih =>
    intro xs hl a b hb hx s0 s1 s4 s5
    match xs, hl, hx with
    | x :: y :: xs, hl, hx =>
      rw [List.all_cons, Bool.and_eq_true, List.all_cons, Bool.and_eq_true] at hl
      by_cases b0 : b = 0
      · subst b0; rw [Nat.gcd_zero_right]; exact stop x _ hl.1 a s0 s1 s4 s5
      · rw [turn x _ hl.1 a b (by omega)]
        have g1 : Nat.gcd a b = Nat.gcd b (a % b) := by rw [Nat.gcd_comm a b, Nat.gcd_rec b a, Nat.gcd_comm]
        rw [g1]
        by_cases r0 : a % b = 0
        · rw [r0, Nat.gcd_zero_right]; exact stop y _ hl.2.1 b s0 s1 _ _
        · rw [turn y _ hl.2.1 b (a % b) (by omega)]
          have g2 : Nat.gcd b (a % b) = Nat.gcd (a % b) (b % (a % b)) := by rw [Nat.gcd_comm b (a % b), Nat.gcd_rec (a % b) b, Nat.gcd_comm]
          rw [g2]
          refine ih xs hl.2.2 (a % b) (b % (a % b)) ?_ (by simp at hx; omega) s0 s1 _ _
          have r1 : a % b < b := Nat.mod_lt _ (by omega)
          have r2 : b % (a % b) < a % b := Nat.mod_lt _ (by omega)
          have r3 : b % (a % b) + a % b ≤ b := by
            have e := Nat.div_add_mod b (a % b)
            have q : 1 ≤ b / (a % b) := (Nat.one_le_div_iff (by omega)).mpr (by omega)
            have : a % b * 1 ≤ a % b * (b / (a % b)) := Nat.mul_le_mul_left _ q
            omega
          rw [Nat.pow_succ] at hb
          omega
theorem h__law_common : ∀ ds, sp__law_common ds ≠ .bad → endO (f__law_common (startE 6 [true, true] ds)) = sp__law_common ds := by
  intro ds h
  unfold sp__law_common at h ⊢
  split at h
  · rename_i a b
    split at h
    · rename_i hb
      rw [if_pos hb]
      rw [Bool.and_eq_true] at hb
      have e := common_loop 299 (rgItems 0 600) (by unfold rgItems; rw [List.all_map]; simp [leaf]) a.natAbs b.natAbs (bd hb.2) (by unfold rgItems; simp) (some (.im (.int a))) (some (.im (.int b))) none none
      have si : smI 600 = true := by decide +kernel
      have t6 : (600 : Int).toNat = 600 := rfl
      simp only [f__law_common, fSeq_eq, seqO_nx, seqO_rt, seqO_bk, seqO_ct, seqO_ex, seqO_bad, seqO_ite, fAft_eq, aftO_nx, aftO_rt, aftO_ex, aftO_bad, aftO_ite, endO_nx, endO_rt, endO_ex, endO_bad, endO_ite, goE_ite, bind_ite, eq_int, ne_int, ix_tup0, ix_tup1, ix_tup2, ix_tup3, ix_tup4, ix_lst0, ix_lst1, ix_lst2, ix_lst3, ix_lst4, fIfS, fAsg, fBef, frz1, fRet, fRetV, fDrop, fApp, fSetAt, fAug, fFor, fRaise, fNext, goE_ok, goE_ex, goE_bad, fTst, fB, fNeg, gNeg, gI, gI0, gB0, fVar, fC, fCB, fCons, fNil, fTup, fLst, fIf, fAnd, fOr, fNot, fAndV, fOrV, fNotV, fIsT, gIsT, D.ty, fChain, fSl, oI, ownAll, Cl.owned, Cl.toD, Cl.m, view, clB, R.bind_ok, R.bind_ex, R.bind_bad, okI, okB, asB, startE, argM, gCall_eq, callO_some, resC_ok, resC_ex, resC_bad, resC_ite, argD, arg1, gAbs, gInt, gGcd, gLen, gIsN, D.isN, mkTup, isIm, M.toD, M.toDs, M.pure, M.pures, gNm, iR1, iR2, iSq, itemsE, List.set_cons_zero, List.set_cons_succ, List.getElem?_cons_zero, List.getElem?_cons_succ, List.getElem?_nil, List.cons_append, List.nil_append, List.append_nil, List.length_cons, List.length_nil, List.replicate_succ, List.replicate_zero, List.set_nil, List.all_cons, List.all_nil, Bool.and_true, Bool.true_and, Bool.and_self, if_true, if_false, if_pos, Bool.false_eq_true, decide_true, decide_false, Nat.reduceAdd, Nat.reduceSub, ite_true, ite_false, Bool.not_true, Bool.not_false, kit_ii, kit_ib, kit_bb, kit_bi, kit_tt, kit_it, lenOk, smOk, Nat.reduceLeDiff, Nat.reduceLT, decide_eq_true_eq, Bool.and_eq_true, fTry_eq, tryO_nx, tryO_rt, tryO_bk, tryO_ct, tryO_ex, tryO_ite, fHd, fHdAs, calmO, calmO_ite, outI, outI_ite, fIs, isQ_exc, isQ_obj, isQ, isT2, fAt, gAt, fl_imE, fl_boE, fl_imO, fl_boO, fl_obj, fg_t, fg_f, imF, boF, fRaise, pures_ints, it_imL, it_imT, it_imF, it_boL, it_boT, it_boF, it_lst, it_tup, it_li, items_dl, List.map_cons, List.map_nil, toDs_ints, pures_ims, toDs_ims, li_pure, li_toD, ld_pure, ld_toD, absN, si, t6, e, gd]
    · exact absurd rfl h
  · exact absurd rfl h
theorem common_eq {a b : Int} (h : Bd 299 a = true) (q : Bd 299 b = true) : sp__law_common [.int a, .int b] = .ok (.im (.int (gd a b))) := by
  show (if (Bd 299 a && Bd 299 b) = true then _ else _) = _
  rw [h, q]; rfl
theorem h__law_lowest : ∀ ds, sp__law_lowest ds ≠ .bad → endO (f__law_lowest (startE 3 [true, true] ds)) = sp__law_lowest ds := by
  intro ds h
  unfold sp__law_lowest at h ⊢
  split at h
  · rename_i n d
    split at h
    · rename_i hb
      rw [if_pos hb]
      rw [Bool.and_eq_true] at hb
      have hg : ∀ i, divOk i (gd n d) = true := fun i => divOk_gd (by omega) hb.1.2 (by decide)
      simp only [f__law_lowest, fSeq_eq, seqO_nx, seqO_rt, seqO_bk, seqO_ct, seqO_ex, seqO_bad, seqO_ite, fAft_eq, aftO_nx, aftO_rt, aftO_ex, aftO_bad, aftO_ite, endO_nx, endO_rt, endO_ex, endO_bad, endO_ite, goE_ite, bind_ite, eq_int, ne_int, ix_tup0, ix_tup1, ix_tup2, ix_tup3, ix_tup4, ix_lst0, ix_lst1, ix_lst2, ix_lst3, ix_lst4, fIfS, fAsg, fBef, frz1, fRet, fRetV, fDrop, fApp, fSetAt, fAug, fFor, fRaise, fNext, goE_ok, goE_ex, goE_bad, fTst, fB, fNeg, gNeg, gI, gI0, gB0, fVar, fC, fCB, fCons, fNil, fTup, fLst, fIf, fAnd, fOr, fNot, fAndV, fOrV, fNotV, fIsT, gIsT, D.ty, fChain, fSl, oI, ownAll, Cl.owned, Cl.toD, Cl.m, view, clB, R.bind_ok, R.bind_ex, R.bind_bad, okI, okB, asB, startE, argM, gCall_eq, callO_some, resC_ok, resC_ex, resC_bad, resC_ite, argD, arg1, gAbs, gInt, gGcd, gLen, gIsN, D.isN, mkTup, isIm, M.toD, M.toDs, M.pure, M.pures, gNm, iR1, iR2, iSq, itemsE, List.set_cons_zero, List.set_cons_succ, List.getElem?_cons_zero, List.getElem?_cons_succ, List.getElem?_nil, List.cons_append, List.nil_append, List.append_nil, List.length_cons, List.length_nil, List.replicate_succ, List.replicate_zero, List.set_nil, List.all_cons, List.all_nil, Bool.and_true, Bool.true_and, Bool.and_self, if_true, if_false, if_pos, Bool.false_eq_true, decide_true, decide_false, Nat.reduceAdd, Nat.reduceSub, ite_true, ite_false, Bool.not_true, Bool.not_false, kit_ii, kit_ib, kit_bb, kit_bi, kit_tt, kit_it, lenOk, smOk, Nat.reduceLeDiff, Nat.reduceLT, decide_eq_true_eq, Bool.and_eq_true, fTry_eq, tryO_nx, tryO_rt, tryO_bk, tryO_ct, tryO_ex, tryO_ite, fHd, fHdAs, calmO, calmO_ite, outI, outI_ite, fIs, isQ_exc, isQ_obj, isQ, isT2, fAt, gAt, fl_imE, fl_boE, fl_imO, fl_boO, fl_obj, fg_t, fg_f, imF, boF, fRaise, pures_ints, it_imL, it_imT, it_imF, it_boL, it_boT, it_boF, it_lst, it_tup, it_li, items_dl, List.map_cons, List.map_nil, toDs_ints, pures_ims, toDs_ims, li_pure, li_toD, ld_pure, ld_toD, common_eq hb.1.1 hb.1.2, hg, fr]
    · exact absurd rfl h
  · exact absurd rfl h
theorem h__law_is_due : ∀ ds, sp__law_is_due ds ≠ .bad → endO (f__law_is_due (startE 3 [true, true, true] ds)) = sp__law_is_due ds := by
  intro ds h
  unfold sp__law_is_due at h ⊢
  split at h
  · rename_i a b n d
    split at h
    · rename_i hb
      rw [if_pos hb]
      simp only [Bool.and_eq_true] at hb
      obtain ⟨h1, h2, h3, h4⟩ := hb
      have i1 : ∀ i, sp__law_is_integer [.int i] = .ok (.im (.bl true)) := fun _ => rfl
      have m1 : mulOk a d = true := mulOk_of h1 h4 (by decide) (by decide) (by decide)
      have m2 : mulOk n b = true := mulOk_of h3 h2 (by decide) (by decide) (by decide)
      have e2 : M.items (.im (.tup [.int a, .int b])) = some (false, [.im (.int a), .im (.int b)]) := rfl
      have l2 : ((0 + 1 + 1 : Nat) : Int) = 2 := rfl
      simp only [f__law_is_due, fSeq_eq, seqO_nx, seqO_rt, seqO_bk, seqO_ct, seqO_ex, seqO_bad, seqO_ite, fAft_eq, aftO_nx, aftO_rt, aftO_ex, aftO_bad, aftO_ite, endO_nx, endO_rt, endO_ex, endO_bad, endO_ite, goE_ite, bind_ite, eq_int, ne_int, ix_tup0, ix_tup1, ix_tup2, ix_tup3, ix_tup4, ix_lst0, ix_lst1, ix_lst2, ix_lst3, ix_lst4, fIfS, fAsg, fBef, frz1, fRet, fRetV, fDrop, fApp, fSetAt, fAug, fFor, fRaise, fNext, goE_ok, goE_ex, goE_bad, fTst, fB, fNeg, gNeg, gI, gI0, gB0, fVar, fC, fCB, fCons, fNil, fTup, fLst, fIf, fAnd, fOr, fNot, fAndV, fOrV, fNotV, fIsT, gIsT, D.ty, fChain, fSl, oI, ownAll, Cl.owned, Cl.toD, Cl.m, view, clB, R.bind_ok, R.bind_ex, R.bind_bad, okI, okB, asB, startE, argM, gCall_eq, callO_some, resC_ok, resC_ex, resC_bad, resC_ite, argD, arg1, gAbs, gInt, gGcd, gLen, gIsN, D.isN, mkTup, isIm, M.toD, M.toDs, M.pure, M.pures, gNm, iR1, iR2, iSq, itemsE, List.set_cons_zero, List.set_cons_succ, List.getElem?_cons_zero, List.getElem?_cons_succ, List.getElem?_nil, List.cons_append, List.nil_append, List.append_nil, List.length_cons, List.length_nil, List.replicate_succ, List.replicate_zero, List.set_nil, List.all_cons, List.all_nil, Bool.and_true, Bool.true_and, Bool.and_self, if_true, if_false, if_pos, Bool.false_eq_true, decide_true, decide_false, Nat.reduceAdd, Nat.reduceSub, ite_true, ite_false, Bool.not_true, Bool.not_false, kit_ii, kit_ib, kit_bb, kit_bi, kit_tt, kit_it, lenOk, smOk, Nat.reduceLeDiff, Nat.reduceLT, decide_eq_true_eq, Bool.and_eq_true, fTry_eq, tryO_nx, tryO_rt, tryO_bk, tryO_ct, tryO_ex, tryO_ite, fHd, fHdAs, calmO, calmO_ite, outI, outI_ite, fIs, isQ_exc, isQ_obj, isQ, isT2, fAt, gAt, fl_imE, fl_boE, fl_imO, fl_boO, fl_obj, fg_t, fg_f, imF, boF, fRaise, pures_ints, it_imL, it_imT, it_imF, it_boL, it_boT, it_boF, it_lst, it_tup, it_li, items_dl, List.map_cons, List.map_nil, toDs_ints, pures_ims, toDs_ims, li_pure, li_toD, ld_pure, ld_toD, i1, common_eq h1 h2, m1, m2, e2, due]
      by_cases q : b < 1
      · have q' : ¬ 1 ≤ b := by omega
        simp [q, q']
      · have q' : 1 ≤ b := by omega
        simp only [q, q', if_false, decide_true, decide_false]
        by_cases g : gd a b = 1
        · simp [g]
        · simp [g]
    · exact absurd rfl h
  · exact absurd rfl h
end K0
set_option Elab.async false
set_option linter.all false
set_option maxRecDepth 100000
set_option maxHeartbeats 4000000
set_option exponentiation.threshold 5000
namespace K0
open PySem L2 NW
theorem P29_eq : (3 : Int) * 10 ^ (29 : Int).toNat = P29 := by unfold P29; rfl
theorem pow29 : fMul (fC (.int 3)) (fPow (fC (.int 10)) (fC (.int 29))) = fC (.int P29) := by
  funext env
  have p1 : powOk 10 29 = true := by decide +kernel
  have m1 : ∀ a, mulOk 3 a = true := fun a => by unfold mulOk; rw [Bool.or_eq_true]; exact .inl (decide_eq_true (.inl (by decide)))
  simp only [fSeq_eq, seqO_nx, seqO_rt, seqO_bk, seqO_ct, seqO_ex, seqO_bad, seqO_ite, fAft_eq, aftO_nx, aftO_rt, aftO_ex, aftO_bad, aftO_ite, endO_nx, endO_rt, endO_ex, endO_bad, endO_ite, goE_ite, bind_ite, eq_int, ne_int, ix_tup0, ix_tup1, ix_tup2, ix_tup3, ix_tup4, ix_lst0, ix_lst1, ix_lst2, ix_lst3, ix_lst4, fIfS, fAsg, fBef, frz1, fRet, fRetV, fDrop, fApp, fSetAt, fAug, fFor, fRaise, fNext, goE_ok, goE_ex, goE_bad, fTst, fB, fNeg, gNeg, gI, gI0, gB0, fVar, fC, fCB, fCons, fNil, fTup, fLst, fIf, fAnd, fOr, fNot, fAndV, fOrV, fNotV, fIsT, gIsT, D.ty, fChain, fSl, oI, ownAll, Cl.owned, Cl.toD, Cl.m, view, clB, R.bind_ok, R.bind_ex, R.bind_bad, okI, okB, asB, startE, argM, gCall_eq, callO_some, resC_ok, resC_ex, resC_bad, resC_ite, argD, arg1, gAbs, gInt, gGcd, gLen, gIsN, D.isN, mkTup, isIm, M.toD, M.toDs, M.pure, M.pures, gNm, iR1, iR2, iSq, itemsE, List.set_cons_zero, List.set_cons_succ, List.getElem?_cons_zero, List.getElem?_cons_succ, List.getElem?_nil, List.cons_append, List.nil_append, List.append_nil, List.length_cons, List.length_nil, List.replicate_succ, List.replicate_zero, List.set_nil, List.all_cons, List.all_nil, Bool.and_true, Bool.true_and, Bool.and_self, if_true, if_false, if_pos, Bool.false_eq_true, decide_true, decide_false, Nat.reduceAdd, Nat.reduceSub, ite_true, ite_false, Bool.not_true, Bool.not_false, kit_ii, kit_ib, kit_bb, kit_bi, kit_tt, kit_it, lenOk, smOk, Nat.reduceLeDiff, Nat.reduceLT, decide_eq_true_eq, Bool.and_eq_true, fTry_eq, tryO_nx, tryO_rt, tryO_bk, tryO_ct, tryO_ex, tryO_ite, fHd, fHdAs, calmO, calmO_ite, outI, outI_ite, fIs, isQ_exc, isQ_obj, isQ, isT2, fAt, gAt, fl_imE, fl_boE, fl_imO, fl_boO, fl_obj, fg_t, fg_f, imF, boF, fRaise, pures_ints, it_imL, it_imT, it_imF, it_boL, it_boT, it_boF, it_lst, it_tup, it_li, items_dl, List.map_cons, List.map_nil, toDs_ints, pures_ims, toDs_ims, li_pure, li_toD, ld_pure, ld_toD, p1, m1, P29_eq]
theorem P29_1 : 1 ≤ P29 := by unfold P29; decide
theorem P29_b : Bd 99 P29 = true := by unfold P29; decide +kernel
theorem intsD_eq : ∀ {xs : List NW.D} {ns : List Int}, intsD xs = some ns → xs = ns.map .int
  | [], ns, h => by simp only [intsD, Option.some.injEq] at h; subst h; rfl
  | d :: xs, ns, h => by
    match d, h with
    | .int i, h =>
      simp only [intsD] at h
      cases e : intsD xs with
      | none => rw [e] at h; exact absurd h (by simp)
      | some l => rw [e] at h; simp only [Option.map_some, Option.some.injEq] at h; subst h; rw [intsD_eq e]; rfl
theorem bd_le {k : Nat} {a b : Int} (h : Bd k b = true) (q0 : 0 ≤ a) (q : a ≤ b) : Bd k a = true := bd_of (by have := bd h; omega)
theorem bd_lit {k : Nat} {a : Int} (h : a.natAbs < 2 ^ k) : Bd k a = true := bd_of h
theorem bd_div {k : Nat} {a b : Int} (h : Bd k a = true) : Bd k (a / b) = true := bd_of (Nat.lt_of_le_of_lt (Int.natAbs_ediv_le_natAbs a b) (bd h))
theorem Bd_small {a : Int} (k : Nat) (hk : 4 ≤ k) (h0 : -15 ≤ a) (h : a ≤ 15) : Bd k a = true := bd_mono (k := 4) (bd_of (by show a.natAbs < 16; omega)) hk
theorem second_body (P a b k f s : Int) (gl gw : List NW.D → R M) (L : Int → Int → Int) (w : Int → Int → Int × Int) (ns : List Int) (hn : 3 ≤ ns.length) (hb : 0 < b) (ba : Bd 100 a = true) (bb : Bd 100 b = true) (P1 : 1 ≤ P) (bP : Bd 99 P = true)
    (hL : ∀ c m, 0 ≤ m → gl [.int c, .int m] = .ok (.im (.int (L c m)))) (hl : ∀ c m, 0 ≤ m → 0 ≤ L c m ∧ L c m ≤ m)
    (hw : ∀ n d, Bd 299 n = true → Bd 299 d = true → 0 < d → gw [.int n, .int d] = .ok (.im (pr (w n d)))) (near : Int) (hnear : near = 1 + ns.getD 0 0 % 9) (F : NW.Env → Out)
    (hF : F = (fSeq (fAsg 5 (fAdd (fC (.int 1)) (fMod (fCB gInt (fCons (fIx (fVar 2) (fC (.int 0))) fNil)) (fC (.int 9)))))
    (fSeq (fIfS (fTst (fEq (fVar 1) (fC (.int 0)))) (fRetV 0) fNext)
    (fSeq (fIfS (fTst (fEq (fVar 1) (fC (.int 1)))) (fRet (fTup (fCons (fSub (fC (.int 0)) (fIx (fVar 0) (fC (.int 0)))) (fCons (fIx (fVar 0) (fC (.int 1))) fNil)))) fNext)
    (fSeq (fIfS (fTst (fEq (fVar 1) (fC (.int 2)))) (fRet (fCB (gCall [true, true] gw) (fCons (fAdd (fIx (fVar 0) (fC (.int 0))) (fVar 5)) (fCons (fIx (fVar 0) (fC (.int 1))) fNil)))) fNext)
    (fSeq (fIfS (fTst (fEq (fVar 1) (fC (.int 3)))) (fRet (fCB (gCall [true, true] gw) (fCons (fIx (fVar 0) (fC (.int 0))) (fCons (fAdd (fIx (fVar 0) (fC (.int 1))) (fVar 5)) fNil)))) fNext)
    (fSeq (fIfS (fTst (fEq (fVar 1) (fC (.int 4)))) (fRet (fCB (gCall [true, true] gw) (fCons (fAdd (fMul (fDiv (fIx (fVar 0) (fC (.int 0))) (fIx (fVar 0) (fC (.int 1)))) (fVar 5)) (fMod (fCB gInt (fCons (fIx (fVar 2) (fC (.int 1))) fNil)) (fVar 5))) (fCons (fVar 5) fNil)))) fNext)
    (fSeq (fAft 6 (fAsg 6 (fCB (gCall [true, true] gl) (fCons (fVar 3) (fCons (fC (.int P)) fNil)))))
    (fSeq (fIfS (fTst (fEq (fVar 1) (fC (.int 5)))) (fAsg 6 (fC (.int 0))) fNext)
    (fSeq (fIfS (fTst (fEq (fMod (fCB gInt (fCons (fIx (fVar 2) (fC (.int 2))) fNil)) (fC (.int 2))) (fC (.int 1)))) (fAsg 6 (fSub (fC (.int 0)) (fVar 6))) fNext)
    (fRet (fCB (gCall [true, true] gw) (fCons (fVar 6) (fCons (fAdd (fC (.int 1)) (fCB (gCall [true, true] gl) (fCons (fVar 4) (fCons (fSub (fC (.int P)) (fC (.int 1))) fNil)))) fNil))))))))))))))
    (Z : R M) (hZ : .ok (.im (pr (if k = 0 then (a, b) else if k = 1 then (0 - a, b) else if k = 2 then w (a + near) b else if k = 3 then w a (b + near)
      else if k = 4 then w (a / b * near + ns.getD 1 0 % near) near
      else w (if ns.getD 2 0 % 2 = 1 then 0 - (if k = 5 then 0 else L f P) else (if k = 5 then 0 else L f P)) (1 + L s (P - 1))))) = Z) :
    endO (F (startE 7 [true, true, true, true, true] [.tup [.int a, .int b], .int k, dl ns, .int f, .int s])) = Z := by
  have i0 : gIx (.own (.im (dl ns))) (.own (.im (.int 0))) = okI (ns.getD 0 0) := ix_dl (by decide) (by omega)
  have i1 : gIx (.own (.im (dl ns))) (.own (.im (.int 1))) = okI (ns.getD 1 0) := ix_dl (by decide) (by omega)
  have i2 : gIx (.own (.im (dl ns))) (.own (.im (.int 2))) = okI (ns.getD 2 0) := ix_dl (by decide) (by omega)
  have o9 : ∀ a, modOk a 9 = true := fun a => rfl
  have o2 : ∀ a, modOk a 2 = true := fun a => rfl
  have n1 : 1 ≤ near := by omega
  have n9 : near ≤ 9 := by omega
  have on : ∀ a, modOk a near = true := fun a => decide_eq_true (by omega)
  have bn : Bd 4 near = true := Bd_small 4 (by decide) (by omega) (by omega)
  have bm : ∀ i, Bd 4 (i % near) = true := fun i => by
    have h0 := Int.emod_nonneg i (show near ≠ 0 by omega)
    have h1 := Int.emod_lt_of_pos i (show 0 < near by omega)
    exact Bd_small 4 (by decide) (by omega) (by omega)
  have dk : divOk a b = true := divOk_of hb bb (by decide)
  have mk : mulOk (a / b) near = true := mulOk_of (bd_div ba) bn (by decide) (by decide) (by decide)
  have w2 := hw (a + near) b (bd_mono (bd_add ba (bd_mono bn (by decide))) (by decide)) (bd_mono bb (by decide)) hb
  have w3 := hw a (b + near) (bd_mono ba (by decide)) (bd_mono (bd_add bb (bd_mono bn (by decide))) (by decide)) (by omega)
  have w4 := hw (a / b * near + ns.getD 1 0 % near) near (bd_mono (bd_add (bd_mul (bd_div ba) bn) (bd_mono (bm _) (by decide))) (by decide)) (bd_mono bn (by decide)) (by omega)
  have L1 := hL f P (by omega)
  have L2 := hL s (P - 1) (by omega)
  have l1 := hl f P (by omega)
  have l2 := hl s (P - 1) (by omega)
  have bl : Bd 299 (1 + L s (P - 1)) = true := bd_mono (bd_le bP (by omega) (by omega)) (by decide)
  have bk : Bd 299 (L f P) = true := bd_mono (bd_le bP (by omega) (by omega)) (by decide)
  have b0 : Bd 299 0 = true := Bd_small 299 (by decide) (by decide) (by decide)
  have w5 := hw 0 (1 + L s (P - 1)) b0 bl (by omega)
  have w6 := hw (L f P) (1 + L s (P - 1)) bk bl (by omega)
  have w7 := hw (0 - L f P) (1 + L s (P - 1)) (by rw [Int.zero_sub, bd_neg]; exact bk) bl (by omega)
  rw [← hZ, hF]
  simp only [fSeq_eq, seqO_nx, seqO_rt, seqO_bk, seqO_ct, seqO_ex, seqO_bad, seqO_ite, fAft_eq, aftO_nx, aftO_rt, aftO_ex, aftO_bad, aftO_ite, endO_nx, endO_rt, endO_ex, endO_bad, endO_ite, goE_ite, bind_ite, eq_int, ne_int, ix_tup0, ix_tup1, ix_tup2, ix_tup3, ix_tup4, ix_lst0, ix_lst1, ix_lst2, ix_lst3, ix_lst4, fIfS, fAsg, fBef, frz1, fRet, fRetV, fDrop, fApp, fSetAt, fAug, fFor, fRaise, fNext, goE_ok, goE_ex, goE_bad, fTst, fB, fNeg, gNeg, gI, gI0, gB0, fVar, fC, fCB, fCons, fNil, fTup, fLst, fIf, fAnd, fOr, fNot, fAndV, fOrV, fNotV, fIsT, gIsT, D.ty, fChain, fSl, oI, ownAll, Cl.owned, Cl.toD, Cl.m, view, clB, R.bind_ok, R.bind_ex, R.bind_bad, okI, okB, asB, startE, argM, gCall_eq, callO_some, resC_ok, resC_ex, resC_bad, resC_ite, argD, arg1, gAbs, gInt, gGcd, gLen, gIsN, D.isN, mkTup, isIm, M.toD, M.toDs, M.pure, M.pures, gNm, iR1, iR2, iSq, itemsE, List.set_cons_zero, List.set_cons_succ, List.getElem?_cons_zero, List.getElem?_cons_succ, List.getElem?_nil, List.cons_append, List.nil_append, List.append_nil, List.length_cons, List.length_nil, List.replicate_succ, List.replicate_zero, List.set_nil, List.all_cons, List.all_nil, Bool.and_true, Bool.true_and, Bool.and_self, if_true, if_false, if_pos, Bool.false_eq_true, decide_true, decide_false, Nat.reduceAdd, Nat.reduceSub, ite_true, ite_false, Bool.not_true, Bool.not_false, kit_ii, kit_ib, kit_bb, kit_bi, kit_tt, kit_it, lenOk, smOk, Nat.reduceLeDiff, Nat.reduceLT, decide_eq_true_eq, Bool.and_eq_true, fTry_eq, tryO_nx, tryO_rt, tryO_bk, tryO_ct, tryO_ex, tryO_ite, fHd, fHdAs, calmO, calmO_ite, outI, outI_ite, fIs, isQ_exc, isQ_obj, isQ, isT2, fAt, gAt, fl_imE, fl_boE, fl_imO, fl_boO, fl_obj, fg_t, fg_f, imF, boF, fRaise, pures_ints, it_imL, it_imT, it_imF, it_boL, it_boT, it_boF, it_lst, it_tup, it_li, items_dl, List.map_cons, List.map_nil, toDs_ints, pures_ims, toDs_ims, li_pure, li_toD, ld_pure, ld_toD, i0, o9, ← hnear]
  by_cases k0 : k = 0
  · simp only [k0, fSeq_eq, seqO_nx, seqO_rt, seqO_bk, seqO_ct, seqO_ex, seqO_bad, seqO_ite, fAft_eq, aftO_nx, aftO_rt, aftO_ex, aftO_bad, aftO_ite, endO_nx, endO_rt, endO_ex, endO_bad, endO_ite, goE_ite, bind_ite, eq_int, ne_int, ix_tup0, ix_tup1, ix_tup2, ix_tup3, ix_tup4, ix_lst0, ix_lst1, ix_lst2, ix_lst3, ix_lst4, fIfS, fAsg, fBef, frz1, fRet, fRetV, fDrop, fApp, fSetAt, fAug, fFor, fRaise, fNext, goE_ok, goE_ex, goE_bad, fTst, fB, fNeg, gNeg, gI, gI0, gB0, fVar, fC, fCB, fCons, fNil, fTup, fLst, fIf, fAnd, fOr, fNot, fAndV, fOrV, fNotV, fIsT, gIsT, D.ty, fChain, fSl, oI, ownAll, Cl.owned, Cl.toD, Cl.m, view, clB, R.bind_ok, R.bind_ex, R.bind_bad, okI, okB, asB, startE, argM, gCall_eq, callO_some, resC_ok, resC_ex, resC_bad, resC_ite, argD, arg1, gAbs, gInt, gGcd, gLen, gIsN, D.isN, mkTup, isIm, M.toD, M.toDs, M.pure, M.pures, gNm, iR1, iR2, iSq, itemsE, List.set_cons_zero, List.set_cons_succ, List.getElem?_cons_zero, List.getElem?_cons_succ, List.getElem?_nil, List.cons_append, List.nil_append, List.append_nil, List.length_cons, List.length_nil, List.replicate_succ, List.replicate_zero, List.set_nil, List.all_cons, List.all_nil, Bool.and_true, Bool.true_and, Bool.and_self, if_true, if_false, if_pos, Bool.false_eq_true, decide_true, decide_false, Nat.reduceAdd, Nat.reduceSub, ite_true, ite_false, Bool.not_true, Bool.not_false, kit_ii, kit_ib, kit_bb, kit_bi, kit_tt, kit_it, lenOk, smOk, Nat.reduceLeDiff, Nat.reduceLT, decide_eq_true_eq, Bool.and_eq_true, fTry_eq, tryO_nx, tryO_rt, tryO_bk, tryO_ct, tryO_ex, tryO_ite, fHd, fHdAs, calmO, calmO_ite, outI, outI_ite, fIs, isQ_exc, isQ_obj, isQ, isT2, fAt, gAt, fl_imE, fl_boE, fl_imO, fl_boO, fl_obj, fg_t, fg_f, imF, boF, fRaise, pures_ints, it_imL, it_imT, it_imF, it_boL, it_boT, it_boF, it_lst, it_tup, it_li, items_dl, List.map_cons, List.map_nil, toDs_ints, pures_ims, toDs_ims, li_pure, li_toD, ld_pure, ld_toD, pr, fr]
  simp only [k0, fSeq_eq, seqO_nx, seqO_rt, seqO_bk, seqO_ct, seqO_ex, seqO_bad, seqO_ite, fAft_eq, aftO_nx, aftO_rt, aftO_ex, aftO_bad, aftO_ite, endO_nx, endO_rt, endO_ex, endO_bad, endO_ite, goE_ite, bind_ite, eq_int, ne_int, ix_tup0, ix_tup1, ix_tup2, ix_tup3, ix_tup4, ix_lst0, ix_lst1, ix_lst2, ix_lst3, ix_lst4, fIfS, fAsg, fBef, frz1, fRet, fRetV, fDrop, fApp, fSetAt, fAug, fFor, fRaise, fNext, goE_ok, goE_ex, goE_bad, fTst, fB, fNeg, gNeg, gI, gI0, gB0, fVar, fC, fCB, fCons, fNil, fTup, fLst, fIf, fAnd, fOr, fNot, fAndV, fOrV, fNotV, fIsT, gIsT, D.ty, fChain, fSl, oI, ownAll, Cl.owned, Cl.toD, Cl.m, view, clB, R.bind_ok, R.bind_ex, R.bind_bad, okI, okB, asB, startE, argM, gCall_eq, callO_some, resC_ok, resC_ex, resC_bad, resC_ite, argD, arg1, gAbs, gInt, gGcd, gLen, gIsN, D.isN, mkTup, isIm, M.toD, M.toDs, M.pure, M.pures, gNm, iR1, iR2, iSq, itemsE, List.set_cons_zero, List.set_cons_succ, List.getElem?_cons_zero, List.getElem?_cons_succ, List.getElem?_nil, List.cons_append, List.nil_append, List.append_nil, List.length_cons, List.length_nil, List.replicate_succ, List.replicate_zero, List.set_nil, List.all_cons, List.all_nil, Bool.and_true, Bool.true_and, Bool.and_self, if_true, if_false, if_pos, Bool.false_eq_true, decide_true, decide_false, Nat.reduceAdd, Nat.reduceSub, ite_true, ite_false, Bool.not_true, Bool.not_false, kit_ii, kit_ib, kit_bb, kit_bi, kit_tt, kit_it, lenOk, smOk, Nat.reduceLeDiff, Nat.reduceLT, decide_eq_true_eq, Bool.and_eq_true, fTry_eq, tryO_nx, tryO_rt, tryO_bk, tryO_ct, tryO_ex, tryO_ite, fHd, fHdAs, calmO, calmO_ite, outI, outI_ite, fIs, isQ_exc, isQ_obj, isQ, isT2, fAt, gAt, fl_imE, fl_boE, fl_imO, fl_boO, fl_obj, fg_t, fg_f, imF, boF, fRaise, pures_ints, it_imL, it_imT, it_imF, it_boL, it_boT, it_boF, it_lst, it_tup, it_li, items_dl, List.map_cons, List.map_nil, toDs_ints, pures_ims, toDs_ims, li_pure, li_toD, ld_pure, ld_toD]
  by_cases k1 : k = 1
  · simp only [k1, fSeq_eq, seqO_nx, seqO_rt, seqO_bk, seqO_ct, seqO_ex, seqO_bad, seqO_ite, fAft_eq, aftO_nx, aftO_rt, aftO_ex, aftO_bad, aftO_ite, endO_nx, endO_rt, endO_ex, endO_bad, endO_ite, goE_ite, bind_ite, eq_int, ne_int, ix_tup0, ix_tup1, ix_tup2, ix_tup3, ix_tup4, ix_lst0, ix_lst1, ix_lst2, ix_lst3, ix_lst4, fIfS, fAsg, fBef, frz1, fRet, fRetV, fDrop, fApp, fSetAt, fAug, fFor, fRaise, fNext, goE_ok, goE_ex, goE_bad, fTst, fB, fNeg, gNeg, gI, gI0, gB0, fVar, fC, fCB, fCons, fNil, fTup, fLst, fIf, fAnd, fOr, fNot, fAndV, fOrV, fNotV, fIsT, gIsT, D.ty, fChain, fSl, oI, ownAll, Cl.owned, Cl.toD, Cl.m, view, clB, R.bind_ok, R.bind_ex, R.bind_bad, okI, okB, asB, startE, argM, gCall_eq, callO_some, resC_ok, resC_ex, resC_bad, resC_ite, argD, arg1, gAbs, gInt, gGcd, gLen, gIsN, D.isN, mkTup, isIm, M.toD, M.toDs, M.pure, M.pures, gNm, iR1, iR2, iSq, itemsE, List.set_cons_zero, List.set_cons_succ, List.getElem?_cons_zero, List.getElem?_cons_succ, List.getElem?_nil, List.cons_append, List.nil_append, List.append_nil, List.length_cons, List.length_nil, List.replicate_succ, List.replicate_zero, List.set_nil, List.all_cons, List.all_nil, Bool.and_true, Bool.true_and, Bool.and_self, if_true, if_false, if_pos, Bool.false_eq_true, decide_true, decide_false, Nat.reduceAdd, Nat.reduceSub, ite_true, ite_false, Bool.not_true, Bool.not_false, kit_ii, kit_ib, kit_bb, kit_bi, kit_tt, kit_it, lenOk, smOk, Nat.reduceLeDiff, Nat.reduceLT, decide_eq_true_eq, Bool.and_eq_true, fTry_eq, tryO_nx, tryO_rt, tryO_bk, tryO_ct, tryO_ex, tryO_ite, fHd, fHdAs, calmO, calmO_ite, outI, outI_ite, fIs, isQ_exc, isQ_obj, isQ, isT2, fAt, gAt, fl_imE, fl_boE, fl_imO, fl_boO, fl_obj, fg_t, fg_f, imF, boF, fRaise, pures_ints, it_imL, it_imT, it_imF, it_boL, it_boT, it_boF, it_lst, it_tup, it_li, items_dl, List.map_cons, List.map_nil, toDs_ints, pures_ims, toDs_ims, li_pure, li_toD, ld_pure, ld_toD, pr, fr]
  simp only [k1, fSeq_eq, seqO_nx, seqO_rt, seqO_bk, seqO_ct, seqO_ex, seqO_bad, seqO_ite, fAft_eq, aftO_nx, aftO_rt, aftO_ex, aftO_bad, aftO_ite, endO_nx, endO_rt, endO_ex, endO_bad, endO_ite, goE_ite, bind_ite, eq_int, ne_int, ix_tup0, ix_tup1, ix_tup2, ix_tup3, ix_tup4, ix_lst0, ix_lst1, ix_lst2, ix_lst3, ix_lst4, fIfS, fAsg, fBef, frz1, fRet, fRetV, fDrop, fApp, fSetAt, fAug, fFor, fRaise, fNext, goE_ok, goE_ex, goE_bad, fTst, fB, fNeg, gNeg, gI, gI0, gB0, fVar, fC, fCB, fCons, fNil, fTup, fLst, fIf, fAnd, fOr, fNot, fAndV, fOrV, fNotV, fIsT, gIsT, D.ty, fChain, fSl, oI, ownAll, Cl.owned, Cl.toD, Cl.m, view, clB, R.bind_ok, R.bind_ex, R.bind_bad, okI, okB, asB, startE, argM, gCall_eq, callO_some, resC_ok, resC_ex, resC_bad, resC_ite, argD, arg1, gAbs, gInt, gGcd, gLen, gIsN, D.isN, mkTup, isIm, M.toD, M.toDs, M.pure, M.pures, gNm, iR1, iR2, iSq, itemsE, List.set_cons_zero, List.set_cons_succ, List.getElem?_cons_zero, List.getElem?_cons_succ, List.getElem?_nil, List.cons_append, List.nil_append, List.append_nil, List.length_cons, List.length_nil, List.replicate_succ, List.replicate_zero, List.set_nil, List.all_cons, List.all_nil, Bool.and_true, Bool.true_and, Bool.and_self, if_true, if_false, if_pos, Bool.false_eq_true, decide_true, decide_false, Nat.reduceAdd, Nat.reduceSub, ite_true, ite_false, Bool.not_true, Bool.not_false, kit_ii, kit_ib, kit_bb, kit_bi, kit_tt, kit_it, lenOk, smOk, Nat.reduceLeDiff, Nat.reduceLT, decide_eq_true_eq, Bool.and_eq_true, fTry_eq, tryO_nx, tryO_rt, tryO_bk, tryO_ct, tryO_ex, tryO_ite, fHd, fHdAs, calmO, calmO_ite, outI, outI_ite, fIs, isQ_exc, isQ_obj, isQ, isT2, fAt, gAt, fl_imE, fl_boE, fl_imO, fl_boO, fl_obj, fg_t, fg_f, imF, boF, fRaise, pures_ints, it_imL, it_imT, it_imF, it_boL, it_boT, it_boF, it_lst, it_tup, it_li, items_dl, List.map_cons, List.map_nil, toDs_ints, pures_ims, toDs_ims, li_pure, li_toD, ld_pure, ld_toD]
  by_cases k2 : k = 2
  · simp only [k2, w2, fSeq_eq, seqO_nx, seqO_rt, seqO_bk, seqO_ct, seqO_ex, seqO_bad, seqO_ite, fAft_eq, aftO_nx, aftO_rt, aftO_ex, aftO_bad, aftO_ite, endO_nx, endO_rt, endO_ex, endO_bad, endO_ite, goE_ite, bind_ite, eq_int, ne_int, ix_tup0, ix_tup1, ix_tup2, ix_tup3, ix_tup4, ix_lst0, ix_lst1, ix_lst2, ix_lst3, ix_lst4, fIfS, fAsg, fBef, frz1, fRet, fRetV, fDrop, fApp, fSetAt, fAug, fFor, fRaise, fNext, goE_ok, goE_ex, goE_bad, fTst, fB, fNeg, gNeg, gI, gI0, gB0, fVar, fC, fCB, fCons, fNil, fTup, fLst, fIf, fAnd, fOr, fNot, fAndV, fOrV, fNotV, fIsT, gIsT, D.ty, fChain, fSl, oI, ownAll, Cl.owned, Cl.toD, Cl.m, view, clB, R.bind_ok, R.bind_ex, R.bind_bad, okI, okB, asB, startE, argM, gCall_eq, callO_some, resC_ok, resC_ex, resC_bad, resC_ite, argD, arg1, gAbs, gInt, gGcd, gLen, gIsN, D.isN, mkTup, isIm, M.toD, M.toDs, M.pure, M.pures, gNm, iR1, iR2, iSq, itemsE, List.set_cons_zero, List.set_cons_succ, List.getElem?_cons_zero, List.getElem?_cons_succ, List.getElem?_nil, List.cons_append, List.nil_append, List.append_nil, List.length_cons, List.length_nil, List.replicate_succ, List.replicate_zero, List.set_nil, List.all_cons, List.all_nil, Bool.and_true, Bool.true_and, Bool.and_self, if_true, if_false, if_pos, Bool.false_eq_true, decide_true, decide_false, Nat.reduceAdd, Nat.reduceSub, ite_true, ite_false, Bool.not_true, Bool.not_false, kit_ii, kit_ib, kit_bb, kit_bi, kit_tt, kit_it, lenOk, smOk, Nat.reduceLeDiff, Nat.reduceLT, decide_eq_true_eq, Bool.and_eq_true, fTry_eq, tryO_nx, tryO_rt, tryO_bk, tryO_ct, tryO_ex, tryO_ite, fHd, fHdAs, calmO, calmO_ite, outI, outI_ite, fIs, isQ_exc, isQ_obj, isQ, isT2, fAt, gAt, fl_imE, fl_boE, fl_imO, fl_boO, fl_obj, fg_t, fg_f, imF, boF, fRaise, pures_ints, it_imL, it_imT, it_imF, it_boL, it_boT, it_boF, it_lst, it_tup, it_li, items_dl, List.map_cons, List.map_nil, toDs_ints, pures_ims, toDs_ims, li_pure, li_toD, ld_pure, ld_toD, pr, fr]
  simp only [k2, fSeq_eq, seqO_nx, seqO_rt, seqO_bk, seqO_ct, seqO_ex, seqO_bad, seqO_ite, fAft_eq, aftO_nx, aftO_rt, aftO_ex, aftO_bad, aftO_ite, endO_nx, endO_rt, endO_ex, endO_bad, endO_ite, goE_ite, bind_ite, eq_int, ne_int, ix_tup0, ix_tup1, ix_tup2, ix_tup3, ix_tup4, ix_lst0, ix_lst1, ix_lst2, ix_lst3, ix_lst4, fIfS, fAsg, fBef, frz1, fRet, fRetV, fDrop, fApp, fSetAt, fAug, fFor, fRaise, fNext, goE_ok, goE_ex, goE_bad, fTst, fB, fNeg, gNeg, gI, gI0, gB0, fVar, fC, fCB, fCons, fNil, fTup, fLst, fIf, fAnd, fOr, fNot, fAndV, fOrV, fNotV, fIsT, gIsT, D.ty, fChain, fSl, oI, ownAll, Cl.owned, Cl.toD, Cl.m, view, clB, R.bind_ok, R.bind_ex, R.bind_bad, okI, okB, asB, startE, argM, gCall_eq, callO_some, resC_ok, resC_ex, resC_bad, resC_ite, argD, arg1, gAbs, gInt, gGcd, gLen, gIsN, D.isN, mkTup, isIm, M.toD, M.toDs, M.pure, M.pures, gNm, iR1, iR2, iSq, itemsE, List.set_cons_zero, List.set_cons_succ, List.getElem?_cons_zero, List.getElem?_cons_succ, List.getElem?_nil, List.cons_append, List.nil_append, List.append_nil, List.length_cons, List.length_nil, List.replicate_succ, List.replicate_zero, List.set_nil, List.all_cons, List.all_nil, Bool.and_true, Bool.true_and, Bool.and_self, if_true, if_false, if_pos, Bool.false_eq_true, decide_true, decide_false, Nat.reduceAdd, Nat.reduceSub, ite_true, ite_false, Bool.not_true, Bool.not_false, kit_ii, kit_ib, kit_bb, kit_bi, kit_tt, kit_it, lenOk, smOk, Nat.reduceLeDiff, Nat.reduceLT, decide_eq_true_eq, Bool.and_eq_true, fTry_eq, tryO_nx, tryO_rt, tryO_bk, tryO_ct, tryO_ex, tryO_ite, fHd, fHdAs, calmO, calmO_ite, outI, outI_ite, fIs, isQ_exc, isQ_obj, isQ, isT2, fAt, gAt, fl_imE, fl_boE, fl_imO, fl_boO, fl_obj, fg_t, fg_f, imF, boF, fRaise, pures_ints, it_imL, it_imT, it_imF, it_boL, it_boT, it_boF, it_lst, it_tup, it_li, items_dl, List.map_cons, List.map_nil, toDs_ints, pures_ims, toDs_ims, li_pure, li_toD, ld_pure, ld_toD]
  by_cases k3 : k = 3
  · simp only [k3, w3, fSeq_eq, seqO_nx, seqO_rt, seqO_bk, seqO_ct, seqO_ex, seqO_bad, seqO_ite, fAft_eq, aftO_nx, aftO_rt, aftO_ex, aftO_bad, aftO_ite, endO_nx, endO_rt, endO_ex, endO_bad, endO_ite, goE_ite, bind_ite, eq_int, ne_int, ix_tup0, ix_tup1, ix_tup2, ix_tup3, ix_tup4, ix_lst0, ix_lst1, ix_lst2, ix_lst3, ix_lst4, fIfS, fAsg, fBef, frz1, fRet, fRetV, fDrop, fApp, fSetAt, fAug, fFor, fRaise, fNext, goE_ok, goE_ex, goE_bad, fTst, fB, fNeg, gNeg, gI, gI0, gB0, fVar, fC, fCB, fCons, fNil, fTup, fLst, fIf, fAnd, fOr, fNot, fAndV, fOrV, fNotV, fIsT, gIsT, D.ty, fChain, fSl, oI, ownAll, Cl.owned, Cl.toD, Cl.m, view, clB, R.bind_ok, R.bind_ex, R.bind_bad, okI, okB, asB, startE, argM, gCall_eq, callO_some, resC_ok, resC_ex, resC_bad, resC_ite, argD, arg1, gAbs, gInt, gGcd, gLen, gIsN, D.isN, mkTup, isIm, M.toD, M.toDs, M.pure, M.pures, gNm, iR1, iR2, iSq, itemsE, List.set_cons_zero, List.set_cons_succ, List.getElem?_cons_zero, List.getElem?_cons_succ, List.getElem?_nil, List.cons_append, List.nil_append, List.append_nil, List.length_cons, List.length_nil, List.replicate_succ, List.replicate_zero, List.set_nil, List.all_cons, List.all_nil, Bool.and_true, Bool.true_and, Bool.and_self, if_true, if_false, if_pos, Bool.false_eq_true, decide_true, decide_false, Nat.reduceAdd, Nat.reduceSub, ite_true, ite_false, Bool.not_true, Bool.not_false, kit_ii, kit_ib, kit_bb, kit_bi, kit_tt, kit_it, lenOk, smOk, Nat.reduceLeDiff, Nat.reduceLT, decide_eq_true_eq, Bool.and_eq_true, fTry_eq, tryO_nx, tryO_rt, tryO_bk, tryO_ct, tryO_ex, tryO_ite, fHd, fHdAs, calmO, calmO_ite, outI, outI_ite, fIs, isQ_exc, isQ_obj, isQ, isT2, fAt, gAt, fl_imE, fl_boE, fl_imO, fl_boO, fl_obj, fg_t, fg_f, imF, boF, fRaise, pures_ints, it_imL, it_imT, it_imF, it_boL, it_boT, it_boF, it_lst, it_tup, it_li, items_dl, List.map_cons, List.map_nil, toDs_ints, pures_ims, toDs_ims, li_pure, li_toD, ld_pure, ld_toD]
  simp only [k3, fSeq_eq, seqO_nx, seqO_rt, seqO_bk, seqO_ct, seqO_ex, seqO_bad, seqO_ite, fAft_eq, aftO_nx, aftO_rt, aftO_ex, aftO_bad, aftO_ite, endO_nx, endO_rt, endO_ex, endO_bad, endO_ite, goE_ite, bind_ite, eq_int, ne_int, ix_tup0, ix_tup1, ix_tup2, ix_tup3, ix_tup4, ix_lst0, ix_lst1, ix_lst2, ix_lst3, ix_lst4, fIfS, fAsg, fBef, frz1, fRet, fRetV, fDrop, fApp, fSetAt, fAug, fFor, fRaise, fNext, goE_ok, goE_ex, goE_bad, fTst, fB, fNeg, gNeg, gI, gI0, gB0, fVar, fC, fCB, fCons, fNil, fTup, fLst, fIf, fAnd, fOr, fNot, fAndV, fOrV, fNotV, fIsT, gIsT, D.ty, fChain, fSl, oI, ownAll, Cl.owned, Cl.toD, Cl.m, view, clB, R.bind_ok, R.bind_ex, R.bind_bad, okI, okB, asB, startE, argM, gCall_eq, callO_some, resC_ok, resC_ex, resC_bad, resC_ite, argD, arg1, gAbs, gInt, gGcd, gLen, gIsN, D.isN, mkTup, isIm, M.toD, M.toDs, M.pure, M.pures, gNm, iR1, iR2, iSq, itemsE, List.set_cons_zero, List.set_cons_succ, List.getElem?_cons_zero, List.getElem?_cons_succ, List.getElem?_nil, List.cons_append, List.nil_append, List.append_nil, List.length_cons, List.length_nil, List.replicate_succ, List.replicate_zero, List.set_nil, List.all_cons, List.all_nil, Bool.and_true, Bool.true_and, Bool.and_self, if_true, if_false, if_pos, Bool.false_eq_true, decide_true, decide_false, Nat.reduceAdd, Nat.reduceSub, ite_true, ite_false, Bool.not_true, Bool.not_false, kit_ii, kit_ib, kit_bb, kit_bi, kit_tt, kit_it, lenOk, smOk, Nat.reduceLeDiff, Nat.reduceLT, decide_eq_true_eq, Bool.and_eq_true, fTry_eq, tryO_nx, tryO_rt, tryO_bk, tryO_ct, tryO_ex, tryO_ite, fHd, fHdAs, calmO, calmO_ite, outI, outI_ite, fIs, isQ_exc, isQ_obj, isQ, isT2, fAt, gAt, fl_imE, fl_boE, fl_imO, fl_boO, fl_obj, fg_t, fg_f, imF, boF, fRaise, pures_ints, it_imL, it_imT, it_imF, it_boL, it_boT, it_boF, it_lst, it_tup, it_li, items_dl, List.map_cons, List.map_nil, toDs_ints, pures_ims, toDs_ims, li_pure, li_toD, ld_pure, ld_toD]
  by_cases k4 : k = 4
  · simp only [k4, fSeq_eq, seqO_nx, seqO_rt, seqO_bk, seqO_ct, seqO_ex, seqO_bad, seqO_ite, fAft_eq, aftO_nx, aftO_rt, aftO_ex, aftO_bad, aftO_ite, endO_nx, endO_rt, endO_ex, endO_bad, endO_ite, goE_ite, bind_ite, eq_int, ne_int, ix_tup0, ix_tup1, ix_tup2, ix_tup3, ix_tup4, ix_lst0, ix_lst1, ix_lst2, ix_lst3, ix_lst4, fIfS, fAsg, fBef, frz1, fRet, fRetV, fDrop, fApp, fSetAt, fAug, fFor, fRaise, fNext, goE_ok, goE_ex, goE_bad, fTst, fB, fNeg, gNeg, gI, gI0, gB0, fVar, fC, fCB, fCons, fNil, fTup, fLst, fIf, fAnd, fOr, fNot, fAndV, fOrV, fNotV, fIsT, gIsT, D.ty, fChain, fSl, oI, ownAll, Cl.owned, Cl.toD, Cl.m, view, clB, R.bind_ok, R.bind_ex, R.bind_bad, okI, okB, asB, startE, argM, gCall_eq, callO_some, resC_ok, resC_ex, resC_bad, resC_ite, argD, arg1, gAbs, gInt, gGcd, gLen, gIsN, D.isN, mkTup, isIm, M.toD, M.toDs, M.pure, M.pures, gNm, iR1, iR2, iSq, itemsE, List.set_cons_zero, List.set_cons_succ, List.getElem?_cons_zero, List.getElem?_cons_succ, List.getElem?_nil, List.cons_append, List.nil_append, List.append_nil, List.length_cons, List.length_nil, List.replicate_succ, List.replicate_zero, List.set_nil, List.all_cons, List.all_nil, Bool.and_true, Bool.true_and, Bool.and_self, if_true, if_false, if_pos, Bool.false_eq_true, decide_true, decide_false, Nat.reduceAdd, Nat.reduceSub, ite_true, ite_false, Bool.not_true, Bool.not_false, kit_ii, kit_ib, kit_bb, kit_bi, kit_tt, kit_it, lenOk, smOk, Nat.reduceLeDiff, Nat.reduceLT, decide_eq_true_eq, Bool.and_eq_true, fTry_eq, tryO_nx, tryO_rt, tryO_bk, tryO_ct, tryO_ex, tryO_ite, fHd, fHdAs, calmO, calmO_ite, outI, outI_ite, fIs, isQ_exc, isQ_obj, isQ, isT2, fAt, gAt, fl_imE, fl_boE, fl_imO, fl_boO, fl_obj, fg_t, fg_f, imF, boF, fRaise, pures_ints, it_imL, it_imT, it_imF, it_boL, it_boT, it_boF, it_lst, it_tup, it_li, items_dl, List.map_cons, List.map_nil, toDs_ints, pures_ims, toDs_ims, li_pure, li_toD, ld_pure, ld_toD, i1, on, dk, mk, w4]
  simp only [k4, fSeq_eq, seqO_nx, seqO_rt, seqO_bk, seqO_ct, seqO_ex, seqO_bad, seqO_ite, fAft_eq, aftO_nx, aftO_rt, aftO_ex, aftO_bad, aftO_ite, endO_nx, endO_rt, endO_ex, endO_bad, endO_ite, goE_ite, bind_ite, eq_int, ne_int, ix_tup0, ix_tup1, ix_tup2, ix_tup3, ix_tup4, ix_lst0, ix_lst1, ix_lst2, ix_lst3, ix_lst4, fIfS, fAsg, fBef, frz1, fRet, fRetV, fDrop, fApp, fSetAt, fAug, fFor, fRaise, fNext, goE_ok, goE_ex, goE_bad, fTst, fB, fNeg, gNeg, gI, gI0, gB0, fVar, fC, fCB, fCons, fNil, fTup, fLst, fIf, fAnd, fOr, fNot, fAndV, fOrV, fNotV, fIsT, gIsT, D.ty, fChain, fSl, oI, ownAll, Cl.owned, Cl.toD, Cl.m, view, clB, R.bind_ok, R.bind_ex, R.bind_bad, okI, okB, asB, startE, argM, gCall_eq, callO_some, resC_ok, resC_ex, resC_bad, resC_ite, argD, arg1, gAbs, gInt, gGcd, gLen, gIsN, D.isN, mkTup, isIm, M.toD, M.toDs, M.pure, M.pures, gNm, iR1, iR2, iSq, itemsE, List.set_cons_zero, List.set_cons_succ, List.getElem?_cons_zero, List.getElem?_cons_succ, List.getElem?_nil, List.cons_append, List.nil_append, List.append_nil, List.length_cons, List.length_nil, List.replicate_succ, List.replicate_zero, List.set_nil, List.all_cons, List.all_nil, Bool.and_true, Bool.true_and, Bool.and_self, if_true, if_false, if_pos, Bool.false_eq_true, decide_true, decide_false, Nat.reduceAdd, Nat.reduceSub, ite_true, ite_false, Bool.not_true, Bool.not_false, kit_ii, kit_ib, kit_bb, kit_bi, kit_tt, kit_it, lenOk, smOk, Nat.reduceLeDiff, Nat.reduceLT, decide_eq_true_eq, Bool.and_eq_true, fTry_eq, tryO_nx, tryO_rt, tryO_bk, tryO_ct, tryO_ex, tryO_ite, fHd, fHdAs, calmO, calmO_ite, outI, outI_ite, fIs, isQ_exc, isQ_obj, isQ, isT2, fAt, gAt, fl_imE, fl_boE, fl_imO, fl_boO, fl_obj, fg_t, fg_f, imF, boF, fRaise, pures_ints, it_imL, it_imT, it_imF, it_boL, it_boT, it_boF, it_lst, it_tup, it_li, items_dl, List.map_cons, List.map_nil, toDs_ints, pures_ims, toDs_ims, li_pure, li_toD, ld_pure, ld_toD, L1, i2, o2]
  by_cases k5 : k = 5
  · by_cases q : ns.getD 2 0 % 2 = 1
    · simp only [k5, q, fSeq_eq, seqO_nx, seqO_rt, seqO_bk, seqO_ct, seqO_ex, seqO_bad, seqO_ite, fAft_eq, aftO_nx, aftO_rt, aftO_ex, aftO_bad, aftO_ite, endO_nx, endO_rt, endO_ex, endO_bad, endO_ite, goE_ite, bind_ite, eq_int, ne_int, ix_tup0, ix_tup1, ix_tup2, ix_tup3, ix_tup4, ix_lst0, ix_lst1, ix_lst2, ix_lst3, ix_lst4, fIfS, fAsg, fBef, frz1, fRet, fRetV, fDrop, fApp, fSetAt, fAug, fFor, fRaise, fNext, goE_ok, goE_ex, goE_bad, fTst, fB, fNeg, gNeg, gI, gI0, gB0, fVar, fC, fCB, fCons, fNil, fTup, fLst, fIf, fAnd, fOr, fNot, fAndV, fOrV, fNotV, fIsT, gIsT, D.ty, fChain, fSl, oI, ownAll, Cl.owned, Cl.toD, Cl.m, view, clB, R.bind_ok, R.bind_ex, R.bind_bad, okI, okB, asB, startE, argM, gCall_eq, callO_some, resC_ok, resC_ex, resC_bad, resC_ite, argD, arg1, gAbs, gInt, gGcd, gLen, gIsN, D.isN, mkTup, isIm, M.toD, M.toDs, M.pure, M.pures, gNm, iR1, iR2, iSq, itemsE, List.set_cons_zero, List.set_cons_succ, List.getElem?_cons_zero, List.getElem?_cons_succ, List.getElem?_nil, List.cons_append, List.nil_append, List.append_nil, List.length_cons, List.length_nil, List.replicate_succ, List.replicate_zero, List.set_nil, List.all_cons, List.all_nil, Bool.and_true, Bool.true_and, Bool.and_self, if_true, if_false, if_pos, Bool.false_eq_true, decide_true, decide_false, Nat.reduceAdd, Nat.reduceSub, ite_true, ite_false, Bool.not_true, Bool.not_false, kit_ii, kit_ib, kit_bb, kit_bi, kit_tt, kit_it, lenOk, smOk, Nat.reduceLeDiff, Nat.reduceLT, decide_eq_true_eq, Bool.and_eq_true, fTry_eq, tryO_nx, tryO_rt, tryO_bk, tryO_ct, tryO_ex, tryO_ite, fHd, fHdAs, calmO, calmO_ite, outI, outI_ite, fIs, isQ_exc, isQ_obj, isQ, isT2, fAt, gAt, fl_imE, fl_boE, fl_imO, fl_boO, fl_obj, fg_t, fg_f, imF, boF, fRaise, pures_ints, it_imL, it_imT, it_imF, it_boL, it_boT, it_boF, it_lst, it_tup, it_li, items_dl, List.map_cons, List.map_nil, toDs_ints, pures_ims, toDs_ims, li_pure, li_toD, ld_pure, ld_toD, L2, show (0 - 0 : Int) = 0 from rfl, w5]
    · simp only [k5, q, fSeq_eq, seqO_nx, seqO_rt, seqO_bk, seqO_ct, seqO_ex, seqO_bad, seqO_ite, fAft_eq, aftO_nx, aftO_rt, aftO_ex, aftO_bad, aftO_ite, endO_nx, endO_rt, endO_ex, endO_bad, endO_ite, goE_ite, bind_ite, eq_int, ne_int, ix_tup0, ix_tup1, ix_tup2, ix_tup3, ix_tup4, ix_lst0, ix_lst1, ix_lst2, ix_lst3, ix_lst4, fIfS, fAsg, fBef, frz1, fRet, fRetV, fDrop, fApp, fSetAt, fAug, fFor, fRaise, fNext, goE_ok, goE_ex, goE_bad, fTst, fB, fNeg, gNeg, gI, gI0, gB0, fVar, fC, fCB, fCons, fNil, fTup, fLst, fIf, fAnd, fOr, fNot, fAndV, fOrV, fNotV, fIsT, gIsT, D.ty, fChain, fSl, oI, ownAll, Cl.owned, Cl.toD, Cl.m, view, clB, R.bind_ok, R.bind_ex, R.bind_bad, okI, okB, asB, startE, argM, gCall_eq, callO_some, resC_ok, resC_ex, resC_bad, resC_ite, argD, arg1, gAbs, gInt, gGcd, gLen, gIsN, D.isN, mkTup, isIm, M.toD, M.toDs, M.pure, M.pures, gNm, iR1, iR2, iSq, itemsE, List.set_cons_zero, List.set_cons_succ, List.getElem?_cons_zero, List.getElem?_cons_succ, List.getElem?_nil, List.cons_append, List.nil_append, List.append_nil, List.length_cons, List.length_nil, List.replicate_succ, List.replicate_zero, List.set_nil, List.all_cons, List.all_nil, Bool.and_true, Bool.true_and, Bool.and_self, if_true, if_false, if_pos, Bool.false_eq_true, decide_true, decide_false, Nat.reduceAdd, Nat.reduceSub, ite_true, ite_false, Bool.not_true, Bool.not_false, kit_ii, kit_ib, kit_bb, kit_bi, kit_tt, kit_it, lenOk, smOk, Nat.reduceLeDiff, Nat.reduceLT, decide_eq_true_eq, Bool.and_eq_true, fTry_eq, tryO_nx, tryO_rt, tryO_bk, tryO_ct, tryO_ex, tryO_ite, fHd, fHdAs, calmO, calmO_ite, outI, outI_ite, fIs, isQ_exc, isQ_obj, isQ, isT2, fAt, gAt, fl_imE, fl_boE, fl_imO, fl_boO, fl_obj, fg_t, fg_f, imF, boF, fRaise, pures_ints, it_imL, it_imT, it_imF, it_boL, it_boT, it_boF, it_lst, it_tup, it_li, items_dl, List.map_cons, List.map_nil, toDs_ints, pures_ims, toDs_ims, li_pure, li_toD, ld_pure, ld_toD, L2, w5]
  · by_cases q : ns.getD 2 0 % 2 = 1
    · simp only [k5, q, fSeq_eq, seqO_nx, seqO_rt, seqO_bk, seqO_ct, seqO_ex, seqO_bad, seqO_ite, fAft_eq, aftO_nx, aftO_rt, aftO_ex, aftO_bad, aftO_ite, endO_nx, endO_rt, endO_ex, endO_bad, endO_ite, goE_ite, bind_ite, eq_int, ne_int, ix_tup0, ix_tup1, ix_tup2, ix_tup3, ix_tup4, ix_lst0, ix_lst1, ix_lst2, ix_lst3, ix_lst4, fIfS, fAsg, fBef, frz1, fRet, fRetV, fDrop, fApp, fSetAt, fAug, fFor, fRaise, fNext, goE_ok, goE_ex, goE_bad, fTst, fB, fNeg, gNeg, gI, gI0, gB0, fVar, fC, fCB, fCons, fNil, fTup, fLst, fIf, fAnd, fOr, fNot, fAndV, fOrV, fNotV, fIsT, gIsT, D.ty, fChain, fSl, oI, ownAll, Cl.owned, Cl.toD, Cl.m, view, clB, R.bind_ok, R.bind_ex, R.bind_bad, okI, okB, asB, startE, argM, gCall_eq, callO_some, resC_ok, resC_ex, resC_bad, resC_ite, argD, arg1, gAbs, gInt, gGcd, gLen, gIsN, D.isN, mkTup, isIm, M.toD, M.toDs, M.pure, M.pures, gNm, iR1, iR2, iSq, itemsE, List.set_cons_zero, List.set_cons_succ, List.getElem?_cons_zero, List.getElem?_cons_succ, List.getElem?_nil, List.cons_append, List.nil_append, List.append_nil, List.length_cons, List.length_nil, List.replicate_succ, List.replicate_zero, List.set_nil, List.all_cons, List.all_nil, Bool.and_true, Bool.true_and, Bool.and_self, if_true, if_false, if_pos, Bool.false_eq_true, decide_true, decide_false, Nat.reduceAdd, Nat.reduceSub, ite_true, ite_false, Bool.not_true, Bool.not_false, kit_ii, kit_ib, kit_bb, kit_bi, kit_tt, kit_it, lenOk, smOk, Nat.reduceLeDiff, Nat.reduceLT, decide_eq_true_eq, Bool.and_eq_true, fTry_eq, tryO_nx, tryO_rt, tryO_bk, tryO_ct, tryO_ex, tryO_ite, fHd, fHdAs, calmO, calmO_ite, outI, outI_ite, fIs, isQ_exc, isQ_obj, isQ, isT2, fAt, gAt, fl_imE, fl_boE, fl_imO, fl_boO, fl_obj, fg_t, fg_f, imF, boF, fRaise, pures_ints, it_imL, it_imT, it_imF, it_boL, it_boT, it_boF, it_lst, it_tup, it_li, items_dl, List.map_cons, List.map_nil, toDs_ints, pures_ims, toDs_ims, li_pure, li_toD, ld_pure, ld_toD, L2, w7]
    · simp only [k5, q, fSeq_eq, seqO_nx, seqO_rt, seqO_bk, seqO_ct, seqO_ex, seqO_bad, seqO_ite, fAft_eq, aftO_nx, aftO_rt, aftO_ex, aftO_bad, aftO_ite, endO_nx, endO_rt, endO_ex, endO_bad, endO_ite, goE_ite, bind_ite, eq_int, ne_int, ix_tup0, ix_tup1, ix_tup2, ix_tup3, ix_tup4, ix_lst0, ix_lst1, ix_lst2, ix_lst3, ix_lst4, fIfS, fAsg, fBef, frz1, fRet, fRetV, fDrop, fApp, fSetAt, fAug, fFor, fRaise, fNext, goE_ok, goE_ex, goE_bad, fTst, fB, fNeg, gNeg, gI, gI0, gB0, fVar, fC, fCB, fCons, fNil, fTup, fLst, fIf, fAnd, fOr, fNot, fAndV, fOrV, fNotV, fIsT, gIsT, D.ty, fChain, fSl, oI, ownAll, Cl.owned, Cl.toD, Cl.m, view, clB, R.bind_ok, R.bind_ex, R.bind_bad, okI, okB, asB, startE, argM, gCall_eq, callO_some, resC_ok, resC_ex, resC_bad, resC_ite, argD, arg1, gAbs, gInt, gGcd, gLen, gIsN, D.isN, mkTup, isIm, M.toD, M.toDs, M.pure, M.pures, gNm, iR1, iR2, iSq, itemsE, List.set_cons_zero, List.set_cons_succ, List.getElem?_cons_zero, List.getElem?_cons_succ, List.getElem?_nil, List.cons_append, List.nil_append, List.append_nil, List.length_cons, List.length_nil, List.replicate_succ, List.replicate_zero, List.set_nil, List.all_cons, List.all_nil, Bool.and_true, Bool.true_and, Bool.and_self, if_true, if_false, if_pos, Bool.false_eq_true, decide_true, decide_false, Nat.reduceAdd, Nat.reduceSub, ite_true, ite_false, Bool.not_true, Bool.not_false, kit_ii, kit_ib, kit_bb, kit_bi, kit_tt, kit_it, lenOk, smOk, Nat.reduceLeDiff, Nat.reduceLT, decide_eq_true_eq, Bool.and_eq_true, fTry_eq, tryO_nx, tryO_rt, tryO_bk, tryO_ct, tryO_ex, tryO_ite, fHd, fHdAs, calmO, calmO_ite, outI, outI_ite, fIs, isQ_exc, isQ_obj, isQ, isT2, fAt, gAt, fl_imE, fl_boE, fl_imO, fl_boO, fl_obj, fg_t, fg_f, imF, boF, fRaise, pures_ints, it_imL, it_imT, it_imF, it_boL, it_boT, it_boF, it_lst, it_tup, it_li, items_dl, List.map_cons, List.map_nil, toDs_ints, pures_ims, toDs_ims, li_pure, li_toD, ld_pure, ld_toD, L2, w6]
theorem largeN_range (c m : Int) (h : 0 ≤ m) : 0 ≤ largeN c m ∧ largeN c m ≤ m := by
  unfold largeN
  generalize T18 = T
  split
  · have := Int.emod_nonneg (c.natAbs : Int) (show m + 1 ≠ 0 by omega)
    have := Int.emod_lt_of_pos (c.natAbs : Int) (show 0 < m + 1 by omega)
    omega
  · generalize (List.foldl _ _ _ : Int) = x
    have := Int.emod_nonneg x (show m + 1 ≠ 0 by omega)
    have := Int.emod_lt_of_pos x (show 0 < m + 1 by omega)
    omega
theorem large_sp (c m : Int) (h : 0 ≤ m) : sp__law_large [.int c, .int m] = .ok (.im (.int (largeN c m))) := by
  show (if 0 ≤ m then _ else _) = _
  rw [if_pos h]
theorem lowest_sp (n d : Int) (h : Bd 299 n = true) (q : Bd 299 d = true) (p : 0 < d) : sp__law_lowest [.int n, .int d] = .ok (.im (pr (lowest n d))) := by
  show (if (Bd 299 n && Bd 299 d) = true ∧ 0 < d then _ else _) = _
  rw [h, q, if_pos ⟨rfl, p⟩]; rfl
theorem h__law_second : ∀ ds, sp__law_second ds ≠ .bad → endO (f__law_second (startE 7 [true, true, true, true, true] ds)) = sp__law_second ds := by
  intro ds h
  unfold sp__law_second at h ⊢
  split at h
  · rename_i a b k xs f s
    split at h
    · rename_i ns hns
      split at h
      · rename_i hb
        have hb' := hb
        obtain ⟨h1, h2, h3⟩ := hb'
        rw [Bool.and_eq_true] at h3
        have e := intsD_eq hns
        rw [e]
        refine second_body P29 a b k f s sp__law_large sp__law_lowest largeN lowest ns h1 h2 h3.1 h3.2 P29_1 P29_b large_sp largeN_range lowest_sp _ rfl _ (by unfold f__law_second; rw [pow29]) _ ?_
        rw [if_pos hb]
        unfold second nearN; rfl
      · exact absurd rfl h
    · exact absurd rfl h
  · exact absurd rfl h
end K0
set_option Elab.async false
set_option linter.all false
set_option maxRecDepth 100000
set_option maxHeartbeats 4000000
set_option exponentiation.threshold 5000
namespace K0
open PySem L2 NW
theorem gd_gcd (a b : Int) : gd a b = (Int.gcd a b : Int) := rfl
/-- parts of two numbers by their common divisor -/
theorem parts {n d : Int} (h : d ≠ 0) : ∃ n' d', n = gd n d * n' ∧ d = gd n d * d' ∧ gd n' d' = 1 ∧ n / gd n d = n' ∧ d / gd n d = d' := by
  have gp := gd_pos (n := n) h
  obtain ⟨n', hn⟩ : gd n d ∣ n := Int.gcd_dvd_left _ _
  obtain ⟨d', hd⟩ : gd n d ∣ d := Int.gcd_dvd_right _ _
  refine ⟨n', d', hn, hd, ?_, ?_, ?_⟩
  · have e : gd n d = gd n d * gd n' d' := by
      have q : gd (gd n d * n') (gd n d * d') = gd n d * gd n' d' := by
        rw [gd_gcd (gd n d * n'), Int.gcd_mul_left, gd_gcd n' d', Int.natCast_mul]
        congr 1
      rw [← hn, ← hd] at q
      exact q
    have : gd n d * gd n' d' = gd n d * 1 := by rw [Int.mul_one]; exact e.symm
    exact Int.eq_of_mul_eq_mul_left (by omega) this
  · have := Int.mul_ediv_cancel_left n' (show gd n d ≠ 0 by omega)
    rw [← hn] at this; exact this
  · have := Int.mul_ediv_cancel_left d' (show gd n d ≠ 0 by omega)
    rw [← hd] at this; exact this
theorem frac_facts {n d : Int} (h : d ≠ 0) : 1 ≤ frD n d ∧ gd (frN n d) (frD n d) = 1 ∧ frN n d * d = n * frD n d ∧ (frN n d).natAbs ≤ n.natAbs ∧ (frD n d).natAbs ≤ d.natAbs := by
  have gp := gd_pos (n := n) h
  have main : ∀ m e : Int, e ≠ 0 → 0 < e → 1 ≤ e / gd m e ∧ gd (m / gd m e) (e / gd m e) = 1 ∧ m / gd m e * e = m * (e / gd m e) ∧ (m / gd m e).natAbs ≤ m.natAbs ∧ (e / gd m e).natAbs ≤ e.natAbs := by
    intro m e he hp
    have gp := gd_pos (n := m) he
    obtain ⟨n', d', hn, hd, hg, h1, h2⟩ := parts (n := m) he
    refine ⟨?_, ?_, ?_, Int.natAbs_ediv_le_natAbs _ _, Int.natAbs_ediv_le_natAbs _ _⟩
    · rw [h2]
      rcases Int.lt_or_le 0 d' with q | q
      · omega
      · have := Int.mul_nonpos_of_nonneg_of_nonpos (show 0 ≤ gd m e by omega) q
        omega
    · rw [h1, h2]; exact hg
    · rw [h1, h2]
      have a1 : n' * e = n' * (gd m e * d') := by rw [← hd]
      have a2 : m * d' = gd m e * n' * d' := by rw [← hn]
      rw [a1, a2, Int.mul_left_comm, Int.mul_assoc]
  unfold frN frD
  by_cases q : d < 0
  · rw [if_pos q, if_pos q]
    have := main (-n) (-d) (by omega) (by omega)
    rw [gd_neg] at this
    obtain ⟨a, b, c, e, f⟩ := this
    refine ⟨a, b, ?_, ?_, ?_⟩
    · have c' : -(-n / gd n d * d) = -(n * (-d / gd n d)) := by rw [← Int.mul_neg, c, Int.neg_mul]
      omega
    · rw [Int.natAbs_neg] at e; exact e
    · rw [Int.natAbs_neg] at f; exact f
  · rw [if_neg q, if_neg q]; exact main n d h (by omega)
theorem bd_abs {k : Nat} {a b : Int} (h : Bd k b = true) (q : a.natAbs ≤ b.natAbs) : Bd k a = true := bd_of (Nat.lt_of_le_of_lt q (bd h))
/-- a fraction told, and what the law says of it -/
theorem frac_due {n d n' d' : Int} (h : d ≠ 0) (hn : Bd 299 n = true) (hd : Bd 299 d = true) (bn : Bd 1000 n' = true) (bd' : Bd 1000 d' = true) (e : n * d' = n' * d) :
    sp_frac [.int n, .int d] = .ok (.im (fr (frN n d) (frD n d))) ∧ sp__law_is_due [fr (frN n d) (frD n d), .int n', .int d'] = .ok (.im (.bl true)) := by
  obtain ⟨h1, h2, h3, h4, h5⟩ := frac_facts (n := n) h
  refine ⟨?_, ?_⟩
  · rw [frac_eq (bd_mono hn (by decide)) (bd_mono hd (by decide)), if_neg h]
  · show (if (Bd 299 (frN n d) && (Bd 299 (frD n d) && (Bd 1000 n' && Bd 1000 d'))) = true then R.ok (M.im (.bl (due (frN n d) (frD n d) n' d'))) else .bad) = _
    rw [bd_abs hn h4, bd_abs hd h5, bn, bd']
    have : due (frN n d) (frD n d) n' d' = true := by
      unfold due
      have q : frN n d * d' = n' * frD n d := by
        have : frN n d * d' * d = n' * frD n d * d := by
          calc frN n d * d' * d = frN n d * d * d' := by rw [Int.mul_assoc, Int.mul_comm d', Int.mul_assoc]
            _ = n * frD n d * d' := by rw [h3]
            _ = n * d' * frD n d := by rw [Int.mul_assoc, Int.mul_comm (frD n d), Int.mul_assoc]
            _ = n' * d * frD n d := by rw [e]
            _ = n' * frD n d * d := by rw [Int.mul_assoc, Int.mul_comm d, Int.mul_assoc]
        exact Int.eq_of_mul_eq_mul_right h this
      rw [decide_eq_true h1, decide_eq_true h2, decide_eq_true q]; rfl
    rw [this]; rfl
theorem due_self {a b : Int} (h : Low a b = true) : sp__law_is_due [fr a b, .int a, .int b] = .ok (.im (.bl true)) := by
  unfold Low at h
  simp only [Bool.and_eq_true, decide_eq_true_eq] at h
  obtain ⟨h1, h2, h3, h4⟩ := h
  show (if (Bd 299 a && (Bd 299 b && (Bd 1000 a && Bd 1000 b))) = true then R.ok (M.im (.bl (due a b a b))) else .bad) = _
  rw [bd_mono h3 (by decide), bd_mono h4 (by decide), bd_mono h3 (by decide), bd_mono h4 (by decide)]
  have : due a b a b = true := by
    unfold due
    rw [decide_eq_true h1, decide_eq_true h2, decide_eq_true rfl]; rfl
  rw [this]; rfl
theorem pair_body (g1 ga gs gt gr gd' gc gi gg : List NW.D → R M) (a b c d : Int) (A S T' Q : NW.D) (h1 : mulOk a d = true) (h2 : mulOk c b = true) (h3 : mulOk b d = true) (h4 : mulOk a c = true)
    (hA : ga [fr a b, fr c d] = .ok (.im A)) (dA : g1 [A, .int (a * d + c * b), .int (b * d)] = .ok (.im (.bl true)))
    (hS : gs [fr a b, fr c d] = .ok (.im S)) (dS : g1 [S, .int (a * d - c * b), .int (b * d)] = .ok (.im (.bl true)))
    (hT : gt [fr a b, fr c d] = .ok (.im T')) (dT : g1 [T', .int (a * c), .int (b * d)] = .ok (.im (.bl true)))
    (hR : c = 0 → gr [.int 1, fr a b, fr c d] = .ok (.im (.bl true)))
    (hD : c ≠ 0 → gd' [fr a b, fr c d] = .ok (.im Q)) (dD : c ≠ 0 → g1 [Q, .int (a * d), .int (c * b)] = .ok (.im (.bl true)))
    (hC : gc [fr a b, fr c d] = .ok (.im (.int (ord (a * d) (c * b))))) (hI : ∀ i, gi [.int i] = .ok (.im (.bl true)))
    (hG : gg [fr a b, fr c d] = .ok (.im (if a * d < c * b then fr c d else fr a b))) (x1 : g1 [fr a b, .int a, .int b] = .ok (.im (.bl true))) (x2 : g1 [fr c d, .int c, .int d] = .ok (.im (.bl true))) :
    endO (F__law_pair_is_told g1 ga gs gt gr gd' gc gi gg (startE 8 [true, true] [fr a b, fr c d])) = .ok (.im (.bl true)) := by
  unfold fr at *
  unfold F__law_pair_is_told
  simp only [fSeq_eq, seqO_nx, seqO_rt, seqO_bk, seqO_ct, seqO_ex, seqO_bad, seqO_ite, fAft_eq, aftO_nx, aftO_rt, aftO_ex, aftO_bad, aftO_ite, endO_nx, endO_rt, endO_ex, endO_bad, endO_ite, goE_ite, bind_ite, eq_int, ne_int, ix_tup0, ix_tup1, ix_tup2, ix_tup3, ix_tup4, ix_lst0, ix_lst1, ix_lst2, ix_lst3, ix_lst4, fIfS, fAsg, fBef, frz1, fRet, fRetV, fDrop, fApp, fSetAt, fAug, fFor, fRaise, fNext, goE_ok, goE_ex, goE_bad, fTst, fB, fNeg, gNeg, gI, gI0, gB0, fVar, fC, fCB, fCons, fNil, fTup, fLst, fIf, fAnd, fOr, fNot, fAndV, fOrV, fNotV, fIsT, gIsT, D.ty, fChain, fSl, oI, ownAll, Cl.owned, Cl.toD, Cl.m, view, clB, R.bind_ok, R.bind_ex, R.bind_bad, okI, okB, asB, startE, argM, gCall_eq, callO_some, resC_ok, resC_ex, resC_bad, resC_ite, argD, arg1, gAbs, gInt, gGcd, gLen, gIsN, D.isN, mkTup, isIm, M.toD, M.toDs, M.pure, M.pures, gNm, iR1, iR2, iSq, itemsE, List.set_cons_zero, List.set_cons_succ, List.getElem?_cons_zero, List.getElem?_cons_succ, List.getElem?_nil, List.cons_append, List.nil_append, List.append_nil, List.length_cons, List.length_nil, List.replicate_succ, List.replicate_zero, List.set_nil, List.all_cons, List.all_nil, Bool.and_true, Bool.true_and, Bool.and_self, if_true, if_false, if_pos, Bool.false_eq_true, decide_true, decide_false, Nat.reduceAdd, Nat.reduceSub, ite_true, ite_false, Bool.not_true, Bool.not_false, kit_ii, kit_ib, kit_bb, kit_bi, kit_tt, kit_it, lenOk, smOk, Nat.reduceLeDiff, Nat.reduceLT, decide_eq_true_eq, Bool.and_eq_true, fTry_eq, tryO_nx, tryO_rt, tryO_bk, tryO_ct, tryO_ex, tryO_ite, fHd, fHdAs, calmO, calmO_ite, outI, outI_ite, fIs, isQ_exc, isQ_obj, isQ, isT2, fAt, gAt, fl_imE, fl_boE, fl_imO, fl_boO, fl_obj, fg_t, fg_f, imF, boF, fRaise, pures_ints, it_imL, it_imT, it_imF, it_boL, it_boT, it_boF, it_lst, it_tup, it_li, items_dl, List.map_cons, List.map_nil, toDs_ints, pures_ims, toDs_ims, li_pure, li_toD, ld_pure, ld_toD, h1, h2, h3, h4, hA, dA, hS, dS, hT, dT]
  by_cases p : a * d < c * b
  · have p2 : ¬ c * b < a * d := by omega
    have o : ord (a * d) (c * b) = -1 := by unfold ord; rw [if_pos p]
    rw [o] at hC
    rw [if_pos p] at hG
    by_cases c0 : c = 0
    · rw [if_pos c0]
      simp only [fSeq_eq, seqO_nx, seqO_rt, seqO_bk, seqO_ct, seqO_ex, seqO_bad, seqO_ite, fAft_eq, aftO_nx, aftO_rt, aftO_ex, aftO_bad, aftO_ite, endO_nx, endO_rt, endO_ex, endO_bad, endO_ite, goE_ite, bind_ite, eq_int, ne_int, ix_tup0, ix_tup1, ix_tup2, ix_tup3, ix_tup4, ix_lst0, ix_lst1, ix_lst2, ix_lst3, ix_lst4, fIfS, fAsg, fBef, frz1, fRet, fRetV, fDrop, fApp, fSetAt, fAug, fFor, fRaise, fNext, goE_ok, goE_ex, goE_bad, fTst, fB, fNeg, gNeg, gI, gI0, gB0, fVar, fC, fCB, fCons, fNil, fTup, fLst, fIf, fAnd, fOr, fNot, fAndV, fOrV, fNotV, fIsT, gIsT, D.ty, fChain, fSl, oI, ownAll, Cl.owned, Cl.toD, Cl.m, view, clB, R.bind_ok, R.bind_ex, R.bind_bad, okI, okB, asB, startE, argM, gCall_eq, callO_some, resC_ok, resC_ex, resC_bad, resC_ite, argD, arg1, gAbs, gInt, gGcd, gLen, gIsN, D.isN, mkTup, isIm, M.toD, M.toDs, M.pure, M.pures, gNm, iR1, iR2, iSq, itemsE, List.set_cons_zero, List.set_cons_succ, List.getElem?_cons_zero, List.getElem?_cons_succ, List.getElem?_nil, List.cons_append, List.nil_append, List.append_nil, List.length_cons, List.length_nil, List.replicate_succ, List.replicate_zero, List.set_nil, List.all_cons, List.all_nil, Bool.and_true, Bool.true_and, Bool.and_self, if_true, if_false, if_pos, Bool.false_eq_true, decide_true, decide_false, Nat.reduceAdd, Nat.reduceSub, ite_true, ite_false, Bool.not_true, Bool.not_false, kit_ii, kit_ib, kit_bb, kit_bi, kit_tt, kit_it, lenOk, smOk, Nat.reduceLeDiff, Nat.reduceLT, decide_eq_true_eq, Bool.and_eq_true, fTry_eq, tryO_nx, tryO_rt, tryO_bk, tryO_ct, tryO_ex, tryO_ite, fHd, fHdAs, calmO, calmO_ite, outI, outI_ite, fIs, isQ_exc, isQ_obj, isQ, isT2, fAt, gAt, fl_imE, fl_boE, fl_imO, fl_boO, fl_obj, fg_t, fg_f, imF, boF, fRaise, pures_ints, it_imL, it_imT, it_imF, it_boL, it_boT, it_boF, it_lst, it_tup, it_li, items_dl, List.map_cons, List.map_nil, toDs_ints, pures_ims, toDs_ims, li_pure, li_toD, ld_pure, ld_toD, hR c0, p, p2, hC, hI, hG, x2, show (0 - 1 : Int) = -1 from rfl, show ((-1 : Int) < 0) = True from eq_true (by decide)]
    · rw [if_neg c0]
      simp only [fSeq_eq, seqO_nx, seqO_rt, seqO_bk, seqO_ct, seqO_ex, seqO_bad, seqO_ite, fAft_eq, aftO_nx, aftO_rt, aftO_ex, aftO_bad, aftO_ite, endO_nx, endO_rt, endO_ex, endO_bad, endO_ite, goE_ite, bind_ite, eq_int, ne_int, ix_tup0, ix_tup1, ix_tup2, ix_tup3, ix_tup4, ix_lst0, ix_lst1, ix_lst2, ix_lst3, ix_lst4, fIfS, fAsg, fBef, frz1, fRet, fRetV, fDrop, fApp, fSetAt, fAug, fFor, fRaise, fNext, goE_ok, goE_ex, goE_bad, fTst, fB, fNeg, gNeg, gI, gI0, gB0, fVar, fC, fCB, fCons, fNil, fTup, fLst, fIf, fAnd, fOr, fNot, fAndV, fOrV, fNotV, fIsT, gIsT, D.ty, fChain, fSl, oI, ownAll, Cl.owned, Cl.toD, Cl.m, view, clB, R.bind_ok, R.bind_ex, R.bind_bad, okI, okB, asB, startE, argM, gCall_eq, callO_some, resC_ok, resC_ex, resC_bad, resC_ite, argD, arg1, gAbs, gInt, gGcd, gLen, gIsN, D.isN, mkTup, isIm, M.toD, M.toDs, M.pure, M.pures, gNm, iR1, iR2, iSq, itemsE, List.set_cons_zero, List.set_cons_succ, List.getElem?_cons_zero, List.getElem?_cons_succ, List.getElem?_nil, List.cons_append, List.nil_append, List.append_nil, List.length_cons, List.length_nil, List.replicate_succ, List.replicate_zero, List.set_nil, List.all_cons, List.all_nil, Bool.and_true, Bool.true_and, Bool.and_self, if_true, if_false, if_pos, Bool.false_eq_true, decide_true, decide_false, Nat.reduceAdd, Nat.reduceSub, ite_true, ite_false, Bool.not_true, Bool.not_false, kit_ii, kit_ib, kit_bb, kit_bi, kit_tt, kit_it, lenOk, smOk, Nat.reduceLeDiff, Nat.reduceLT, decide_eq_true_eq, Bool.and_eq_true, fTry_eq, tryO_nx, tryO_rt, tryO_bk, tryO_ct, tryO_ex, tryO_ite, fHd, fHdAs, calmO, calmO_ite, outI, outI_ite, fIs, isQ_exc, isQ_obj, isQ, isT2, fAt, gAt, fl_imE, fl_boE, fl_imO, fl_boO, fl_obj, fg_t, fg_f, imF, boF, fRaise, pures_ints, it_imL, it_imT, it_imF, it_boL, it_boT, it_boF, it_lst, it_tup, it_li, items_dl, List.map_cons, List.map_nil, toDs_ints, pures_ims, toDs_ims, li_pure, li_toD, ld_pure, ld_toD, hD c0, dD c0, p, p2, hC, hI, hG, x2, show (0 - 1 : Int) = -1 from rfl, show ((-1 : Int) < 0) = True from eq_true (by decide)]
  · rw [if_neg p] at hG
    by_cases p2 : c * b < a * d
    · have o : ord (a * d) (c * b) = 1 := by unfold ord; rw [if_neg p, if_pos p2]
      rw [o] at hC
      by_cases c0 : c = 0
      · rw [if_pos c0]
        simp only [fSeq_eq, seqO_nx, seqO_rt, seqO_bk, seqO_ct, seqO_ex, seqO_bad, seqO_ite, fAft_eq, aftO_nx, aftO_rt, aftO_ex, aftO_bad, aftO_ite, endO_nx, endO_rt, endO_ex, endO_bad, endO_ite, goE_ite, bind_ite, eq_int, ne_int, ix_tup0, ix_tup1, ix_tup2, ix_tup3, ix_tup4, ix_lst0, ix_lst1, ix_lst2, ix_lst3, ix_lst4, fIfS, fAsg, fBef, frz1, fRet, fRetV, fDrop, fApp, fSetAt, fAug, fFor, fRaise, fNext, goE_ok, goE_ex, goE_bad, fTst, fB, fNeg, gNeg, gI, gI0, gB0, fVar, fC, fCB, fCons, fNil, fTup, fLst, fIf, fAnd, fOr, fNot, fAndV, fOrV, fNotV, fIsT, gIsT, D.ty, fChain, fSl, oI, ownAll, Cl.owned, Cl.toD, Cl.m, view, clB, R.bind_ok, R.bind_ex, R.bind_bad, okI, okB, asB, startE, argM, gCall_eq, callO_some, resC_ok, resC_ex, resC_bad, resC_ite, argD, arg1, gAbs, gInt, gGcd, gLen, gIsN, D.isN, mkTup, isIm, M.toD, M.toDs, M.pure, M.pures, gNm, iR1, iR2, iSq, itemsE, List.set_cons_zero, List.set_cons_succ, List.getElem?_cons_zero, List.getElem?_cons_succ, List.getElem?_nil, List.cons_append, List.nil_append, List.append_nil, List.length_cons, List.length_nil, List.replicate_succ, List.replicate_zero, List.set_nil, List.all_cons, List.all_nil, Bool.and_true, Bool.true_and, Bool.and_self, if_true, if_false, if_pos, Bool.false_eq_true, decide_true, decide_false, Nat.reduceAdd, Nat.reduceSub, ite_true, ite_false, Bool.not_true, Bool.not_false, kit_ii, kit_ib, kit_bb, kit_bi, kit_tt, kit_it, lenOk, smOk, Nat.reduceLeDiff, Nat.reduceLT, decide_eq_true_eq, Bool.and_eq_true, fTry_eq, tryO_nx, tryO_rt, tryO_bk, tryO_ct, tryO_ex, tryO_ite, fHd, fHdAs, calmO, calmO_ite, outI, outI_ite, fIs, isQ_exc, isQ_obj, isQ, isT2, fAt, gAt, fl_imE, fl_boE, fl_imO, fl_boO, fl_obj, fg_t, fg_f, imF, boF, fRaise, pures_ints, it_imL, it_imT, it_imF, it_boL, it_boT, it_boF, it_lst, it_tup, it_li, items_dl, List.map_cons, List.map_nil, toDs_ints, pures_ims, toDs_ims, li_pure, li_toD, ld_pure, ld_toD, hR c0, p, p2, hC, hI, hG, x1, show (1 - 0 : Int) = 1 from rfl, show ((1 : Int) < 0) = False from eq_false (by decide)]
      · rw [if_neg c0]
        simp only [fSeq_eq, seqO_nx, seqO_rt, seqO_bk, seqO_ct, seqO_ex, seqO_bad, seqO_ite, fAft_eq, aftO_nx, aftO_rt, aftO_ex, aftO_bad, aftO_ite, endO_nx, endO_rt, endO_ex, endO_bad, endO_ite, goE_ite, bind_ite, eq_int, ne_int, ix_tup0, ix_tup1, ix_tup2, ix_tup3, ix_tup4, ix_lst0, ix_lst1, ix_lst2, ix_lst3, ix_lst4, fIfS, fAsg, fBef, frz1, fRet, fRetV, fDrop, fApp, fSetAt, fAug, fFor, fRaise, fNext, goE_ok, goE_ex, goE_bad, fTst, fB, fNeg, gNeg, gI, gI0, gB0, fVar, fC, fCB, fCons, fNil, fTup, fLst, fIf, fAnd, fOr, fNot, fAndV, fOrV, fNotV, fIsT, gIsT, D.ty, fChain, fSl, oI, ownAll, Cl.owned, Cl.toD, Cl.m, view, clB, R.bind_ok, R.bind_ex, R.bind_bad, okI, okB, asB, startE, argM, gCall_eq, callO_some, resC_ok, resC_ex, resC_bad, resC_ite, argD, arg1, gAbs, gInt, gGcd, gLen, gIsN, D.isN, mkTup, isIm, M.toD, M.toDs, M.pure, M.pures, gNm, iR1, iR2, iSq, itemsE, List.set_cons_zero, List.set_cons_succ, List.getElem?_cons_zero, List.getElem?_cons_succ, List.getElem?_nil, List.cons_append, List.nil_append, List.append_nil, List.length_cons, List.length_nil, List.replicate_succ, List.replicate_zero, List.set_nil, List.all_cons, List.all_nil, Bool.and_true, Bool.true_and, Bool.and_self, if_true, if_false, if_pos, Bool.false_eq_true, decide_true, decide_false, Nat.reduceAdd, Nat.reduceSub, ite_true, ite_false, Bool.not_true, Bool.not_false, kit_ii, kit_ib, kit_bb, kit_bi, kit_tt, kit_it, lenOk, smOk, Nat.reduceLeDiff, Nat.reduceLT, decide_eq_true_eq, Bool.and_eq_true, fTry_eq, tryO_nx, tryO_rt, tryO_bk, tryO_ct, tryO_ex, tryO_ite, fHd, fHdAs, calmO, calmO_ite, outI, outI_ite, fIs, isQ_exc, isQ_obj, isQ, isT2, fAt, gAt, fl_imE, fl_boE, fl_imO, fl_boO, fl_obj, fg_t, fg_f, imF, boF, fRaise, pures_ints, it_imL, it_imT, it_imF, it_boL, it_boT, it_boF, it_lst, it_tup, it_li, items_dl, List.map_cons, List.map_nil, toDs_ints, pures_ims, toDs_ims, li_pure, li_toD, ld_pure, ld_toD, hD c0, dD c0, p, p2, hC, hI, hG, x1, show (1 - 0 : Int) = 1 from rfl, show ((1 : Int) < 0) = False from eq_false (by decide)]
    · have o : ord (a * d) (c * b) = 0 := by unfold ord; rw [if_neg p, if_neg p2]
      rw [o] at hC
      by_cases c0 : c = 0
      · rw [if_pos c0]
        simp only [fSeq_eq, seqO_nx, seqO_rt, seqO_bk, seqO_ct, seqO_ex, seqO_bad, seqO_ite, fAft_eq, aftO_nx, aftO_rt, aftO_ex, aftO_bad, aftO_ite, endO_nx, endO_rt, endO_ex, endO_bad, endO_ite, goE_ite, bind_ite, eq_int, ne_int, ix_tup0, ix_tup1, ix_tup2, ix_tup3, ix_tup4, ix_lst0, ix_lst1, ix_lst2, ix_lst3, ix_lst4, fIfS, fAsg, fBef, frz1, fRet, fRetV, fDrop, fApp, fSetAt, fAug, fFor, fRaise, fNext, goE_ok, goE_ex, goE_bad, fTst, fB, fNeg, gNeg, gI, gI0, gB0, fVar, fC, fCB, fCons, fNil, fTup, fLst, fIf, fAnd, fOr, fNot, fAndV, fOrV, fNotV, fIsT, gIsT, D.ty, fChain, fSl, oI, ownAll, Cl.owned, Cl.toD, Cl.m, view, clB, R.bind_ok, R.bind_ex, R.bind_bad, okI, okB, asB, startE, argM, gCall_eq, callO_some, resC_ok, resC_ex, resC_bad, resC_ite, argD, arg1, gAbs, gInt, gGcd, gLen, gIsN, D.isN, mkTup, isIm, M.toD, M.toDs, M.pure, M.pures, gNm, iR1, iR2, iSq, itemsE, List.set_cons_zero, List.set_cons_succ, List.getElem?_cons_zero, List.getElem?_cons_succ, List.getElem?_nil, List.cons_append, List.nil_append, List.append_nil, List.length_cons, List.length_nil, List.replicate_succ, List.replicate_zero, List.set_nil, List.all_cons, List.all_nil, Bool.and_true, Bool.true_and, Bool.and_self, if_true, if_false, if_pos, Bool.false_eq_true, decide_true, decide_false, Nat.reduceAdd, Nat.reduceSub, ite_true, ite_false, Bool.not_true, Bool.not_false, kit_ii, kit_ib, kit_bb, kit_bi, kit_tt, kit_it, lenOk, smOk, Nat.reduceLeDiff, Nat.reduceLT, decide_eq_true_eq, Bool.and_eq_true, fTry_eq, tryO_nx, tryO_rt, tryO_bk, tryO_ct, tryO_ex, tryO_ite, fHd, fHdAs, calmO, calmO_ite, outI, outI_ite, fIs, isQ_exc, isQ_obj, isQ, isT2, fAt, gAt, fl_imE, fl_boE, fl_imO, fl_boO, fl_obj, fg_t, fg_f, imF, boF, fRaise, pures_ints, it_imL, it_imT, it_imF, it_boL, it_boT, it_boF, it_lst, it_tup, it_li, items_dl, List.map_cons, List.map_nil, toDs_ints, pures_ims, toDs_ims, li_pure, li_toD, ld_pure, ld_toD, hR c0, p, p2, hC, hI, hG, x1, show (0 - 0 : Int) = 0 from rfl, show ((0 : Int) < 0) = False from eq_false (by decide)]
      · rw [if_neg c0]
        simp only [fSeq_eq, seqO_nx, seqO_rt, seqO_bk, seqO_ct, seqO_ex, seqO_bad, seqO_ite, fAft_eq, aftO_nx, aftO_rt, aftO_ex, aftO_bad, aftO_ite, endO_nx, endO_rt, endO_ex, endO_bad, endO_ite, goE_ite, bind_ite, eq_int, ne_int, ix_tup0, ix_tup1, ix_tup2, ix_tup3, ix_tup4, ix_lst0, ix_lst1, ix_lst2, ix_lst3, ix_lst4, fIfS, fAsg, fBef, frz1, fRet, fRetV, fDrop, fApp, fSetAt, fAug, fFor, fRaise, fNext, goE_ok, goE_ex, goE_bad, fTst, fB, fNeg, gNeg, gI, gI0, gB0, fVar, fC, fCB, fCons, fNil, fTup, fLst, fIf, fAnd, fOr, fNot, fAndV, fOrV, fNotV, fIsT, gIsT, D.ty, fChain, fSl, oI, ownAll, Cl.owned, Cl.toD, Cl.m, view, clB, R.bind_ok, R.bind_ex, R.bind_bad, okI, okB, asB, startE, argM, gCall_eq, callO_some, resC_ok, resC_ex, resC_bad, resC_ite, argD, arg1, gAbs, gInt, gGcd, gLen, gIsN, D.isN, mkTup, isIm, M.toD, M.toDs, M.pure, M.pures, gNm, iR1, iR2, iSq, itemsE, List.set_cons_zero, List.set_cons_succ, List.getElem?_cons_zero, List.getElem?_cons_succ, List.getElem?_nil, List.cons_append, List.nil_append, List.append_nil, List.length_cons, List.length_nil, List.replicate_succ, List.replicate_zero, List.set_nil, List.all_cons, List.all_nil, Bool.and_true, Bool.true_and, Bool.and_self, if_true, if_false, if_pos, Bool.false_eq_true, decide_true, decide_false, Nat.reduceAdd, Nat.reduceSub, ite_true, ite_false, Bool.not_true, Bool.not_false, kit_ii, kit_ib, kit_bb, kit_bi, kit_tt, kit_it, lenOk, smOk, Nat.reduceLeDiff, Nat.reduceLT, decide_eq_true_eq, Bool.and_eq_true, fTry_eq, tryO_nx, tryO_rt, tryO_bk, tryO_ct, tryO_ex, tryO_ite, fHd, fHdAs, calmO, calmO_ite, outI, outI_ite, fIs, isQ_exc, isQ_obj, isQ, isT2, fAt, gAt, fl_imE, fl_boE, fl_imO, fl_boO, fl_obj, fg_t, fg_f, imF, boF, fRaise, pures_ints, it_imL, it_imT, it_imF, it_boL, it_boT, it_boF, it_lst, it_tup, it_li, items_dl, List.map_cons, List.map_nil, toDs_ints, pures_ims, toDs_ims, li_pure, li_toD, ld_pure, ld_toD, hD c0, dD c0, p, p2, hC, hI, hG, x1, show (0 - 0 : Int) = 0 from rfl, show ((0 : Int) < 0) = False from eq_false (by decide)]
theorem low_parts {a b : Int} (h : Low a b = true) : 1 ≤ b ∧ Bd 120 a = true ∧ Bd 120 b = true := by
  unfold Low at h
  simp only [Bool.and_eq_true, decide_eq_true_eq] at h
  exact ⟨h.1, h.2.2.1, h.2.2.2⟩
theorem b4_of {a b c d : Int} (h1 : Bd 120 a = true) (h2 : Bd 120 b = true) (h3 : Bd 120 c = true) (h4 : Bd 120 d = true) : B4 a b c d = true := by
  unfold B4
  rw [bd_mono h1 (by decide), bd_mono h2 (by decide), bd_mono h3 (by decide), bd_mono h4 (by decide)]; rfl
theorem h__law_pair_is_told : ∀ ds, sp__law_pair_is_told ds ≠ .bad → endO (f__law_pair_is_told (startE 8 [true, true] ds)) = sp__law_pair_is_told ds := by
  intro ds h
  unfold sp__law_pair_is_told at h ⊢
  split at h
  · rename_i a b c d
    split at h
    · rename_i hb
      rw [if_pos hb]
      rw [Bool.and_eq_true] at hb
      obtain ⟨h1, h2, h3⟩ := low_parts hb.1
      obtain ⟨k1, k2, k3⟩ := low_parts hb.2
      have hb4 := b4_of h2 h3 k2 k3
      have bd0 : b * d ≠ 0 := Int.mul_ne_zero (by omega) (by omega)
      have m : ∀ {i j : Int}, Bd 120 i = true → Bd 120 j = true → Bd 240 (i * j) = true := fun h q => bd_mul h q
      have a1 : Bd 299 (a * d + c * b) = true := bd_mono (bd_add (m h2 k3) (m k2 h3)) (by decide)
      have a2 : Bd 299 (a * d - c * b) = true := bd_mono (bd_sub (m h2 k3) (m k2 h3)) (by decide)
      have a3 : Bd 299 (b * d) = true := bd_mono (m h3 k3) (by decide)
      have a4 : Bd 299 (a * c) = true := bd_mono (m h2 k2) (by decide)
      have a5 : Bd 299 (a * d) = true := bd_mono (m h2 k3) (by decide)
      have a6 : Bd 299 (b * c) = true := bd_mono (m h3 k2) (by decide)
      have a7 : Bd 299 (c * b) = true := bd_mono (m k2 h3) (by decide)
      have u : ∀ {i : Int}, Bd 299 i = true → Bd 1000 i = true := fun h => bd_mono h (by decide)
      have v : ∀ {i : Int}, Bd 120 i = true → Bd 1000 i = true := fun h => bd_mono h (by decide)
      have eA := frac_due bd0 a1 a3 (u a1) (u a3) rfl
      have eS := frac_due bd0 a2 a3 (u a2) (u a3) rfl
      have eT := frac_due bd0 a4 a3 (u a4) (u a3) rfl
      have eD : c ≠ 0 → _ := fun q => frac_due (n := a * d) (d := b * c) (n' := a * d) (d' := c * b) (Int.mul_ne_zero (by omega) q) a5 a6 (u a5) (u a7) (by rw [Int.mul_comm c b])
      rw [ff__law_pair_is_told]
      refine pair_body _ _ _ _ _ _ _ _ _ a b c d _ _ _ _ (m1000 (v h2) (v k3)) (m1000 (v k2) (v h3)) (m1000 (v h3) (v k3)) (m1000 (v h2) (v k2))
        ?_ eA.2 ?_ eS.2 ?_ eT.2 ?_ (fun q => ?_) (fun q => (eD q).2) ?_ (fun i => rfl) ?_ (due_self hb.1) (due_self hb.2)
      · rw [← eA.1]; show (if B4 a b c d = true then _ else _) = _; rw [if_pos hb4]
      · rw [← eS.1]; show (if B4 a b c d = true then _ else _) = _; rw [if_pos hb4]
      · rw [← eT.1]; show (if B4 a b c d = true then _ else _) = _; rw [if_pos hb4]
      · intro q
        show (if (1 : Int) ≠ 0 ∧ B4 a b c d = true then R.ok (M.im (.bl (decide (b * c = 0)))) else .bad) = _
        rw [if_pos ⟨by decide, hb4⟩, q, Int.mul_zero]; rfl
      · rw [← (eD q).1]; show (if B4 a b c d = true then _ else _) = _; rw [if_pos hb4]
      · show (if B4 a b c d = true then _ else _) = _; rw [if_pos hb4]
      · show (if B4 a b c d = true then _ else _) = _; rw [if_pos hb4]
    · exact absurd rfl h
  · exact absurd rfl h
end K0
set_option Elab.async false
set_option linter.all false
set_option maxRecDepth 100000
set_option maxHeartbeats 4000000
set_option exponentiation.threshold 5000
namespace K0
open PySem L2 NW
theorem told_body (g1 gf gr : List NW.D → R M) (n d : Int)
    (H : ∀ x y : Int, x = n ∨ x = 0 - n → y = d ∨ y = 0 - d → ∃ A, gf [.int x, .int y] = .ok (.im A) ∧ g1 [A, .int x, .int y] = .ok (.im (.bl true)))
    (H2 : ∀ x y : Int, x = n ∨ x = 0 - n → y = d ∨ y = 0 - d → x ≠ 0 → ∃ A, gf [.int y, .int x] = .ok (.im A) ∧ g1 [A, .int y, .int x] = .ok (.im (.bl true)))
    (HR : ∀ x : Int, x = n ∨ x = 0 - n ∨ x = 0 → gr [.int 0, .int x, .int 0] = .ok (.im (.bl true))) :
    endO (F__law_frac_is_told g1 gf gr (startE 4 [true, true] [.int n, .int d])) = .ok (.im (.bl true)) := by
  have inner : ∀ (x y : Int), x = n ∨ x = 0 - n → y = d ∨ y = 0 - d → b__law_frac_is_told_0 g1 gf [some (.im (.int n)), some (.im (.int d)), some (.im (.int x)), some (.im (.int y))] = .nx [some (.im (.int n)), some (.im (.int d)), some (.im (.int x)), some (.im (.int y))] := by
    intro x y hx hy
    obtain ⟨A, a1, a2⟩ := H x y hx hy
    unfold b__law_frac_is_told_0
    by_cases x0 : x = 0
    · subst x0; simp only [fSeq_eq, seqO_nx, seqO_rt, seqO_bk, seqO_ct, seqO_ex, seqO_bad, seqO_ite, fAft_eq, aftO_nx, aftO_rt, aftO_ex, aftO_bad, aftO_ite, endO_nx, endO_rt, endO_ex, endO_bad, endO_ite, goE_ite, bind_ite, eq_int, ne_int, ix_tup0, ix_tup1, ix_tup2, ix_tup3, ix_tup4, ix_lst0, ix_lst1, ix_lst2, ix_lst3, ix_lst4, fIfS, fAsg, fBef, frz1, fRet, fRetV, fDrop, fApp, fSetAt, fAug, fFor, fRaise, fNext, goE_ok, goE_ex, goE_bad, fTst, fB, fNeg, gNeg, gI, gI0, gB0, fVar, fC, fCB, fCons, fNil, fTup, fLst, fIf, fAnd, fOr, fNot, fAndV, fOrV, fNotV, fIsT, gIsT, D.ty, fChain, fSl, oI, ownAll, Cl.owned, Cl.toD, Cl.m, view, clB, R.bind_ok, R.bind_ex, R.bind_bad, okI, okB, asB, startE, argM, gCall_eq, callO_some, resC_ok, resC_ex, resC_bad, resC_ite, argD, arg1, gAbs, gInt, gGcd, gLen, gIsN, D.isN, mkTup, isIm, M.toD, M.toDs, M.pure, M.pures, gNm, iR1, iR2, iSq, itemsE, List.set_cons_zero, List.set_cons_succ, List.getElem?_cons_zero, List.getElem?_cons_succ, List.getElem?_nil, List.cons_append, List.nil_append, List.append_nil, List.length_cons, List.length_nil, List.replicate_succ, List.replicate_zero, List.set_nil, List.all_cons, List.all_nil, Bool.and_true, Bool.true_and, Bool.and_self, if_true, if_false, if_pos, Bool.false_eq_true, decide_true, decide_false, Nat.reduceAdd, Nat.reduceSub, ite_true, ite_false, Bool.not_true, Bool.not_false, kit_ii, kit_ib, kit_bb, kit_bi, kit_tt, kit_it, lenOk, smOk, Nat.reduceLeDiff, Nat.reduceLT, decide_eq_true_eq, Bool.and_eq_true, fTry_eq, tryO_nx, tryO_rt, tryO_bk, tryO_ct, tryO_ex, tryO_ite, fHd, fHdAs, calmO, calmO_ite, outI, outI_ite, fIs, isQ_exc, isQ_obj, isQ, isT2, fAt, gAt, fl_imE, fl_boE, fl_imO, fl_boO, fl_obj, fg_t, fg_f, imF, boF, fRaise, pures_ints, it_imL, it_imT, it_imF, it_boL, it_boT, it_boF, it_lst, it_tup, it_li, items_dl, List.map_cons, List.map_nil, toDs_ints, pures_ims, toDs_ims, li_pure, li_toD, ld_pure, ld_toD, a1, a2, show (decide ((0 : Int) = 0)) = true from rfl]
    · obtain ⟨B, b1, b2⟩ := H2 x y hx hy x0
      simp only [fSeq_eq, seqO_nx, seqO_rt, seqO_bk, seqO_ct, seqO_ex, seqO_bad, seqO_ite, fAft_eq, aftO_nx, aftO_rt, aftO_ex, aftO_bad, aftO_ite, endO_nx, endO_rt, endO_ex, endO_bad, endO_ite, goE_ite, bind_ite, eq_int, ne_int, ix_tup0, ix_tup1, ix_tup2, ix_tup3, ix_tup4, ix_lst0, ix_lst1, ix_lst2, ix_lst3, ix_lst4, fIfS, fAsg, fBef, frz1, fRet, fRetV, fDrop, fApp, fSetAt, fAug, fFor, fRaise, fNext, goE_ok, goE_ex, goE_bad, fTst, fB, fNeg, gNeg, gI, gI0, gB0, fVar, fC, fCB, fCons, fNil, fTup, fLst, fIf, fAnd, fOr, fNot, fAndV, fOrV, fNotV, fIsT, gIsT, D.ty, fChain, fSl, oI, ownAll, Cl.owned, Cl.toD, Cl.m, view, clB, R.bind_ok, R.bind_ex, R.bind_bad, okI, okB, asB, startE, argM, gCall_eq, callO_some, resC_ok, resC_ex, resC_bad, resC_ite, argD, arg1, gAbs, gInt, gGcd, gLen, gIsN, D.isN, mkTup, isIm, M.toD, M.toDs, M.pure, M.pures, gNm, iR1, iR2, iSq, itemsE, List.set_cons_zero, List.set_cons_succ, List.getElem?_cons_zero, List.getElem?_cons_succ, List.getElem?_nil, List.cons_append, List.nil_append, List.append_nil, List.length_cons, List.length_nil, List.replicate_succ, List.replicate_zero, List.set_nil, List.all_cons, List.all_nil, Bool.and_true, Bool.true_and, Bool.and_self, if_true, if_false, if_pos, Bool.false_eq_true, decide_true, decide_false, Nat.reduceAdd, Nat.reduceSub, ite_true, ite_false, Bool.not_true, Bool.not_false, kit_ii, kit_ib, kit_bb, kit_bi, kit_tt, kit_it, lenOk, smOk, Nat.reduceLeDiff, Nat.reduceLT, decide_eq_true_eq, Bool.and_eq_true, fTry_eq, tryO_nx, tryO_rt, tryO_bk, tryO_ct, tryO_ex, tryO_ite, fHd, fHdAs, calmO, calmO_ite, outI, outI_ite, fIs, isQ_exc, isQ_obj, isQ, isT2, fAt, gAt, fl_imE, fl_boE, fl_imO, fl_boO, fl_obj, fg_t, fg_f, imF, boF, fRaise, pures_ints, it_imL, it_imT, it_imF, it_boL, it_boT, it_boF, it_lst, it_tup, it_li, items_dl, List.map_cons, List.map_nil, toDs_ints, pures_ims, toDs_ims, li_pure, li_toD, ld_pure, ld_toD, a1, a2, x0, b1, b2]
  have outer : ∀ (x : Int) (s3 : Option M), x = n ∨ x = 0 - n → ∃ s3', b__law_frac_is_told_1 g1 gf gr [some (.im (.int n)), some (.im (.int d)), some (.im (.int x)), s3] = .nx [some (.im (.int n)), some (.im (.int d)), some (.im (.int x)), s3'] := by
    intro x s3 hx
    refine ⟨some (.im (.int (0 - d))), ?_⟩
    unfold b__law_frac_is_told_1
    simp only [fSeq_eq, seqO_nx, seqO_rt, seqO_bk, seqO_ct, seqO_ex, seqO_bad, seqO_ite, fAft_eq, aftO_nx, aftO_rt, aftO_ex, aftO_bad, aftO_ite, endO_nx, endO_rt, endO_ex, endO_bad, endO_ite, goE_ite, bind_ite, eq_int, ne_int, ix_tup0, ix_tup1, ix_tup2, ix_tup3, ix_tup4, ix_lst0, ix_lst1, ix_lst2, ix_lst3, ix_lst4, fIfS, fAsg, fBef, frz1, fRet, fRetV, fDrop, fApp, fSetAt, fAug, fFor, fRaise, fNext, goE_ok, goE_ex, goE_bad, fTst, fB, fNeg, gNeg, gI, gI0, gB0, fVar, fC, fCB, fCons, fNil, fTup, fLst, fIf, fAnd, fOr, fNot, fAndV, fOrV, fNotV, fIsT, gIsT, D.ty, fChain, fSl, oI, ownAll, Cl.owned, Cl.toD, Cl.m, view, clB, R.bind_ok, R.bind_ex, R.bind_bad, okI, okB, asB, startE, argM, gCall_eq, callO_some, resC_ok, resC_ex, resC_bad, resC_ite, argD, arg1, gAbs, gInt, gGcd, gLen, gIsN, D.isN, mkTup, isIm, M.toD, M.toDs, M.pure, M.pures, gNm, iR1, iR2, iSq, itemsE, List.set_cons_zero, List.set_cons_succ, List.getElem?_cons_zero, List.getElem?_cons_succ, List.getElem?_nil, List.cons_append, List.nil_append, List.append_nil, List.length_cons, List.length_nil, List.replicate_succ, List.replicate_zero, List.set_nil, List.all_cons, List.all_nil, Bool.and_true, Bool.true_and, Bool.and_self, if_true, if_false, if_pos, Bool.false_eq_true, decide_true, decide_false, Nat.reduceAdd, Nat.reduceSub, ite_true, ite_false, Bool.not_true, Bool.not_false, kit_ii, kit_ib, kit_bb, kit_bi, kit_tt, kit_it, lenOk, smOk, Nat.reduceLeDiff, Nat.reduceLT, decide_eq_true_eq, Bool.and_eq_true, fTry_eq, tryO_nx, tryO_rt, tryO_bk, tryO_ct, tryO_ex, tryO_ite, fHd, fHdAs, calmO, calmO_ite, outI, outI_ite, fIs, isQ_exc, isQ_obj, isQ, isT2, fAt, gAt, fl_imE, fl_boE, fl_imO, fl_boO, fl_obj, fg_t, fg_f, imF, boF, fRaise, pures_ints, it_imL, it_imT, it_imF, it_boL, it_boT, it_boF, it_lst, it_tup, it_li, items_dl, List.map_cons, List.map_nil, toDs_ints, pures_ims, toDs_ims, li_pure, li_toD, ld_pure, ld_toD, loop, leaf, inner x d hx (.inl rfl), inner x (0 - d) hx (.inr rfl), HR x (hx.elim .inl (.inr ∘ .inl))]
  unfold F__law_frac_is_told
  obtain ⟨t1, e1⟩ := outer n none (.inl rfl)
  obtain ⟨t2, e2⟩ := outer (0 - n) t1 (.inr rfl)
  simp only [fSeq_eq, seqO_nx, seqO_rt, seqO_bk, seqO_ct, seqO_ex, seqO_bad, seqO_ite, fAft_eq, aftO_nx, aftO_rt, aftO_ex, aftO_bad, aftO_ite, endO_nx, endO_rt, endO_ex, endO_bad, endO_ite, goE_ite, bind_ite, eq_int, ne_int, ix_tup0, ix_tup1, ix_tup2, ix_tup3, ix_tup4, ix_lst0, ix_lst1, ix_lst2, ix_lst3, ix_lst4, fIfS, fAsg, fBef, frz1, fRet, fRetV, fDrop, fApp, fSetAt, fAug, fFor, fRaise, fNext, goE_ok, goE_ex, goE_bad, fTst, fB, fNeg, gNeg, gI, gI0, gB0, fVar, fC, fCB, fCons, fNil, fTup, fLst, fIf, fAnd, fOr, fNot, fAndV, fOrV, fNotV, fIsT, gIsT, D.ty, fChain, fSl, oI, ownAll, Cl.owned, Cl.toD, Cl.m, view, clB, R.bind_ok, R.bind_ex, R.bind_bad, okI, okB, asB, startE, argM, gCall_eq, callO_some, resC_ok, resC_ex, resC_bad, resC_ite, argD, arg1, gAbs, gInt, gGcd, gLen, gIsN, D.isN, mkTup, isIm, M.toD, M.toDs, M.pure, M.pures, gNm, iR1, iR2, iSq, itemsE, List.set_cons_zero, List.set_cons_succ, List.getElem?_cons_zero, List.getElem?_cons_succ, List.getElem?_nil, List.cons_append, List.nil_append, List.append_nil, List.length_cons, List.length_nil, List.replicate_succ, List.replicate_zero, List.set_nil, List.all_cons, List.all_nil, Bool.and_true, Bool.true_and, Bool.and_self, if_true, if_false, if_pos, Bool.false_eq_true, decide_true, decide_false, Nat.reduceAdd, Nat.reduceSub, ite_true, ite_false, Bool.not_true, Bool.not_false, kit_ii, kit_ib, kit_bb, kit_bi, kit_tt, kit_it, lenOk, smOk, Nat.reduceLeDiff, Nat.reduceLT, decide_eq_true_eq, Bool.and_eq_true, fTry_eq, tryO_nx, tryO_rt, tryO_bk, tryO_ct, tryO_ex, tryO_ite, fHd, fHdAs, calmO, calmO_ite, outI, outI_ite, fIs, isQ_exc, isQ_obj, isQ, isT2, fAt, gAt, fl_imE, fl_boE, fl_imO, fl_boO, fl_obj, fg_t, fg_f, imF, boF, fRaise, pures_ints, it_imL, it_imT, it_imF, it_boL, it_boT, it_boF, it_lst, it_tup, it_li, items_dl, List.map_cons, List.map_nil, toDs_ints, pures_ims, toDs_ims, li_pure, li_toD, ld_pure, ld_toD, loop, leaf, e1, e2, HR 0 (.inr (.inr rfl))]
theorem refused0 {x y : Int} (hx : Bd 4000 x = true) (hy : Bd 4000 y = true) : sp__law_refused [.int 0, .int x, .int y] = .ok (.im (.bl (decide (y = 0)))) := by
  show (if (0 : Int) = 0 ∧ (Bd 4000 x && Bd 4000 y) = true then _ else _) = _
  rw [hx, hy, if_pos ⟨rfl, rfl⟩]
theorem h__law_frac_is_told : ∀ ds, sp__law_frac_is_told ds ≠ .bad → endO (f__law_frac_is_told (startE 4 [true, true] ds)) = sp__law_frac_is_told ds := by
  intro ds h
  unfold sp__law_frac_is_told at h ⊢
  split at h
  · rename_i n d
    split at h
    · rename_i hb
      rw [if_pos hb]
      obtain ⟨d1, hb⟩ := hb
      rw [Bool.and_eq_true] at hb
      have bn : ∀ x : Int, x = n ∨ x = 0 - n → Bd 240 x = true := fun x hx => by
        rcases hx with rfl | rfl
        · exact hb.1
        · rw [Int.zero_sub, bd_neg]; exact hb.1
      have bdd : ∀ x : Int, x = d ∨ x = 0 - d → Bd 240 x = true := fun x hx => by
        rcases hx with rfl | rfl
        · exact hb.2
        · rw [Int.zero_sub, bd_neg]; exact hb.2
      have u : ∀ {i : Int}, Bd 240 i = true → Bd 1000 i = true := fun h => bd_mono h (by decide)
      have v : ∀ {i : Int}, Bd 240 i = true → Bd 299 i = true := fun h => bd_mono h (by decide)
      have b0 : Bd 240 0 = true := Bd_small 240 (by decide) (by decide) (by decide)
      rw [ff__law_frac_is_told]
      refine told_body _ _ _ n d (fun x y hx hy => ?_) (fun x y hx hy x0 => ?_) (fun x hx => ?_)
      · have y0 : y ≠ 0 := by omega
        have := frac_due (n := x) y0 (v (bn x hx)) (v (bdd y hy)) (u (bn x hx)) (u (bdd y hy)) rfl
        exact ⟨_, this.1, this.2⟩
      · have := frac_due (n := y) x0 (v (bdd y hy)) (v (bn x hx)) (u (bdd y hy)) (u (bn x hx)) rfl
        exact ⟨_, this.1, this.2⟩
      · have : Bd 240 x = true := by
          rcases hx with hx | hx | hx
          · exact bn x (.inl hx)
          · exact bn x (.inr hx)
          · rw [hx]; exact b0
        exact refused0 (bd_mono this (by decide)) (bd_mono b0 (by decide))
    · exact absurd rfl h
  · exact absurd rfl h
end K0
set_option Elab.async false
set_option linter.all false
set_option maxRecDepth 100000
set_option maxHeartbeats 4000000
set_option exponentiation.threshold 5000
namespace K0
open PySem L2 NW
@[irreducible] def Q30 : Int := 10 ^ 30
theorem Q30_eq : (10 : Int) ^ (30 : Int).toNat = Q30 := by unfold Q30; rfl
theorem pow30 : fPow (fC (.int 10)) (fC (.int 30)) = fC (.int Q30) := by
  funext env
  have p1 : powOk 10 30 = true := by decide +kernel
  simp only [fSeq_eq, seqO_nx, seqO_rt, seqO_bk, seqO_ct, seqO_ex, seqO_bad, seqO_ite, fAft_eq, aftO_nx, aftO_rt, aftO_ex, aftO_bad, aftO_ite, endO_nx, endO_rt, endO_ex, endO_bad, endO_ite, goE_ite, bind_ite, eq_int, ne_int, ix_tup0, ix_tup1, ix_tup2, ix_tup3, ix_tup4, ix_lst0, ix_lst1, ix_lst2, ix_lst3, ix_lst4, fIfS, fAsg, fBef, frz1, fRet, fRetV, fDrop, fApp, fSetAt, fAug, fFor, fRaise, fNext, goE_ok, goE_ex, goE_bad, fTst, fB, fNeg, gNeg, gI, gI0, gB0, fVar, fC, fCB, fCons, fNil, fTup, fLst, fIf, fAnd, fOr, fNot, fAndV, fOrV, fNotV, fIsT, gIsT, D.ty, fChain, fSl, oI, ownAll, Cl.owned, Cl.toD, Cl.m, view, clB, R.bind_ok, R.bind_ex, R.bind_bad, okI, okB, asB, startE, argM, gCall_eq, callO_some, resC_ok, resC_ex, resC_bad, resC_ite, argD, arg1, gAbs, gInt, gGcd, gLen, gIsN, D.isN, mkTup, isIm, M.toD, M.toDs, M.pure, M.pures, gNm, iR1, iR2, iSq, itemsE, List.set_cons_zero, List.set_cons_succ, List.getElem?_cons_zero, List.getElem?_cons_succ, List.getElem?_nil, List.cons_append, List.nil_append, List.append_nil, List.length_cons, List.length_nil, List.replicate_succ, List.replicate_zero, List.set_nil, List.all_cons, List.all_nil, Bool.and_true, Bool.true_and, Bool.and_self, if_true, if_false, if_pos, Bool.false_eq_true, decide_true, decide_false, Nat.reduceAdd, Nat.reduceSub, ite_true, ite_false, Bool.not_true, Bool.not_false, kit_ii, kit_ib, kit_bb, kit_bi, kit_tt, kit_it, lenOk, smOk, Nat.reduceLeDiff, Nat.reduceLT, decide_eq_true_eq, Bool.and_eq_true, fTry_eq, tryO_nx, tryO_rt, tryO_bk, tryO_ct, tryO_ex, tryO_ite, fHd, fHdAs, calmO, calmO_ite, outI, outI_ite, fIs, isQ_exc, isQ_obj, isQ, isT2, fAt, gAt, fl_imE, fl_boE, fl_imO, fl_boO, fl_obj, fg_t, fg_f, imF, boF, fRaise, pures_ints, it_imL, it_imT, it_imF, it_boL, it_boT, it_boF, it_lst, it_tup, it_li, items_dl, List.map_cons, List.map_nil, toDs_ints, pures_ims, toDs_ims, li_pure, li_toD, ld_pure, ld_toD, p1, Q30_eq]
theorem Q30_2 : 2 ≤ Q30 := by unfold Q30; decide
theorem Q30_b : Bd 100 Q30 = true := by unfold Q30; decide +kernel
def F1_law (gn gc gl gw gs gp gr gt gd' gf ga : List NW.D → R M) (P Q : Int) : NW.Env → Out := (fSeq (fAft 1 (fAsg 1 (fCB (gCall [true, true] gn) (fCons (fCB (gCall [true, true] gc) (fCons (fVar 0) (fCons (fC (.int 0)) fNil))) (fCons (fC (.int 8)) fNil)))))
    (fSeq (fAft 2 (fAsg 2 (fCB (gCall [true, true] gl) (fCons (fCB (gCall [true, true] gc) (fCons (fVar 0) (fCons (fC (.int 1)) fNil))) (fCons (fC (.int P)) fNil)))))
    (fSeq (fAsg 3 (fAdd (fC (.int 1)) (fCB (gCall [true, true] gl) (fCons (fCB (gCall [true, true] gc) (fCons (fVar 0) (fCons (fC (.int 2)) fNil))) (fCons (fSub (fC (.int P)) (fC (.int 1))) fNil)))))
    (fSeq (fIfS (fTst (fEq (fMod (fIx (fVar 1) (fC (.int 0))) (fC (.int 8))) (fC (.int 0)))) (fAsg 2 (fC (.int 0))) fNext)
    (fSeq (fIfS (fTst (fEq (fMod (fIx (fVar 1) (fC (.int 0))) (fC (.int 8))) (fC (.int 1)))) (fAsg 3 (fC (.int 1))) fNext)
    (fSeq (fIfS (fTst (fEq (fMod (fIx (fVar 1) (fC (.int 1))) (fC (.int 2))) (fC (.int 1)))) (fAsg 2 (fSub (fC (.int 0)) (fVar 2))) fNext)
    (fSeq (fAft 4 (fAsg 4 (fCB (gCall [true, true] gw) (fCons (fVar 2) (fCons (fVar 3) fNil)))))
    (fSeq (fAft 5 (fAsg 5 (fCB (gCall [true, true, true, true, true] gs) (fCons (fVar 4) (fCons (fMod (fIx (fVar 1) (fC (.int 2))) (fC (.int 8))) (fCons (fSl (fVar 1) (oI (some (fC (.int 3)))) (oI none)) (fCons (fCB (gCall [true, true] gc) (fCons (fVar 0) (fCons (fC (.int 3)) fNil))) (fCons (fCB (gCall [true, true] gc) (fCons (fVar 0) (fCons (fC (.int 4)) fNil))) fNil))))))))
    (fSeq (fIfS (fOr (fNot (fTst (fCB (gCall [true, true] gp) (fCons (fVar 4) (fCons (fVar 5) fNil))))) (fNot (fTst (fCB (gCall [true, true] gp) (fCons (fVar 5) (fCons (fVar 4) fNil)))))) (fRet (fC (.bl false))) fNext)
    (fSeq (fIfS (fOr (fNot (fTst (fCB (gCall [true, true, true] gr) (fCons (fC (.int 1)) (fCons (fVar 4) (fCons (fTup (fCons (fC (.int 0)) (fCons (fC (.int 1)) fNil))) fNil)))))) (fNot (fTst (fCB (gCall [true, true, true] gr) (fCons (fC (.int 1)) (fCons (fTup (fCons (fC (.int 0)) (fCons (fC (.int 1)) fNil))) (fCons (fTup (fCons (fC (.int 0)) (fCons (fC (.int 1)) fNil))) fNil))))))) (fRet (fC (.bl false))) fNext)
    (fSeq (fAft 6 (fAsg 6 (fCB (gCall [true, true] gl) (fCons (fCB (gCall [true, true] gc) (fCons (fVar 0) (fCons (fC (.int 5)) fNil))) (fCons (fSub (fC (.int Q)) (fC (.int 1))) fNil)))))
    (fSeq (fAsg 7 (fAdd (fC (.int 1)) (fCB (gCall [true, true] gl) (fCons (fCB (gCall [true, true] gc) (fCons (fVar 0) (fCons (fC (.int 6)) fNil))) (fCons (fSub (fC (.int Q)) (fC (.int 2))) fNil)))))
    (fSeq (fAsg 8 (fAdd (fC (.int 1)) (fCB (gCall [true, true] gl) (fCons (fCB (gCall [true, true] gc) (fCons (fVar 0) (fCons (fC (.int 7)) fNil))) (fCons (fSub (fC (.int Q)) (fC (.int 2))) fNil)))))
    (fSeq (fIfS (fTst (fEq (fMod (fIx (fVar 1) (fC (.int 6))) (fC (.int 3))) (fC (.int 0)))) (fAsg 8 (fC (.int 1))) fNext)
    (fSeq (fIfS (fTst (fEq (fMod (fIx (fVar 1) (fC (.int 7))) (fC (.int 6))) (fC (.int 0)))) (fAsg 6 (fC (.int 0))) fNext)
    (fSeq (fIfS (fNot (fTst (fCB (gCall [true, true] gt) (fCons (fMul (fVar 6) (fVar 8)) (fCons (fMul (fVar 7) (fVar 8)) fNil))))) (fRet (fC (.bl false))) fNext)
    (fRet (fAndV (fCB (gCall [true, true, true] gd') (fCons (fCB (gCall [true, true] gf) (fCons (fIx (fVar 4) (fC (.int 0))) (fCons (fIx (fVar 4) (fC (.int 1))) fNil))) (fCons (fIx (fVar 4) (fC (.int 0))) (fCons (fIx (fVar 4) (fC (.int 1))) fNil)))) (fCB (gCall [true, true, true] gd') (fCons (fCB (gCall [true, true] ga) (fCons (fVar 4) (fCons (fTup (fCons (fC (.int 0)) (fCons (fC (.int 1)) fNil))) fNil))) (fCons (fIx (fVar 4) (fC (.int 0))) (fCons (fIx (fVar 4) (fC (.int 1))) fNil))))))))))))))))))))))
theorem F1_eq (gn gc gl gw gs gp gr gt gd' gf ga : List NW.D → R M) : F_law gn gc gl gw gs gp gr gt gd' gf ga = F1_law gn gc gl gw gs gp gr gt gd' gf ga P29 Q30 := by
  unfold F_law F1_law; rw [pow29, pow30]
theorem law_body (gn gc gl gw gs gp gr gt gd' gf ga : List NW.D → R M) (P Q : Int) (ns sh : List Int) (C : Int → Int) (L : Int → Int → Int) (hlen : sh.length = 8)
    (hc : ∀ k, 0 ≤ k → gc [.fz ns, .int k] = .ok (.im (.int (C k)))) (hn : gn [.int (C 0), .int 8] = .ok (li sh))
    (hl : ∀ c m, 0 ≤ m → gl [.int c, .int m] = .ok (.im (.int (L c m)))) (a b c d num den above common : Int) (P1 : 1 ≤ P) (Q2 : 2 ≤ Q) (A B : NW.D)
    (hnum : (if sh.getD 1 0 % 2 = 1 then 0 - (if sh.getD 0 0 % 8 = 0 then 0 else L (C 1) P) else (if sh.getD 0 0 % 8 = 0 then 0 else L (C 1) P)) = num)
    (hden : (if sh.getD 0 0 % 8 = 1 then 1 else 1 + L (C 2) (P - 1)) = den)
    (habove : (if sh.getD 7 0 % 6 = 0 then 0 else L (C 5) (Q - 1)) = above) (hcommon : (if sh.getD 6 0 % 3 = 0 then 1 else 1 + L (C 7) (Q - 2)) = common)
    (m1 : mulOk above common = true) (m2 : mulOk (1 + L (C 6) (Q - 2)) common = true)
    (hw : gw [.int num, .int den] = .ok (.im (fr a b))) (hs : gs [fr a b, .int (sh.getD 2 0 % 8), dl (sh.drop 3), .int (C 3), .int (C 4)] = .ok (.im (fr c d)))
    (p1 : gp [fr a b, fr c d] = .ok (.im (.bl true))) (p2 : gp [fr c d, fr a b] = .ok (.im (.bl true)))
    (r1 : gr [.int 1, fr a b, fr 0 1] = .ok (.im (.bl true))) (r2 : gr [.int 1, fr 0 1, fr 0 1] = .ok (.im (.bl true)))
    (ht : gt [.int (above * common), .int ((1 + L (C 6) (Q - 2)) * common)] = .ok (.im (.bl true)))
    (hf : gf [.int a, .int b] = .ok (.im A)) (df : gd' [A, .int a, .int b] = .ok (.im (.bl true))) (ha : ga [fr a b, fr 0 1] = .ok (.im B)) (da : gd' [B, .int a, .int b] = .ok (.im (.bl true))) :
    endO (F1_law gn gc gl gw gs gp gr gt gd' gf ga P Q (startE 9 [true] [.fz ns])) = .ok (.im (.bl true)) := by
  have j0 : gIx (.own (.im (dl sh))) (.own (.im (.int 0))) = okI (sh.getD 0 0) := ix_dl (by decide) (by omega)
  have j1 : gIx (.own (.im (dl sh))) (.own (.im (.int 1))) = okI (sh.getD 1 0) := ix_dl (by decide) (by omega)
  have j2 : gIx (.own (.im (dl sh))) (.own (.im (.int 2))) = okI (sh.getD 2 0) := ix_dl (by decide) (by omega)
  have j6 : gIx (.own (.im (dl sh))) (.own (.im (.int 6))) = okI (sh.getD 6 0) := ix_dl (by decide) (by omega)
  have j7 : gIx (.own (.im (dl sh))) (.own (.im (.int 7))) = okI (sh.getD 7 0) := ix_dl (by decide) (by omega)
  have o : ∀ a, modOk a 8 = true := fun a => rfl
  have o2 : ∀ a, modOk a 2 = true := fun a => rfl
  have o3 : ∀ a, modOk a 3 = true := fun a => rfl
  have o6 : ∀ a, modOk a 6 = true := fun a => rfl
  have L1 := hl (C 1) P (by omega)
  have L2 := hl (C 2) (P - 1) (by omega)
  have L5 := hl (C 5) (Q - 1) (by omega)
  have L6 := hl (C 6) (Q - 2) (by omega)
  have L7 := hl (C 7) (Q - 2) (by omega)
  have c0 := hc 0 (by decide)
  have c1 := hc 1 (by decide)
  have c2 := hc 2 (by decide)
  have c3 := hc 3 (by decide)
  have c4 := hc 4 (by decide)
  have c5 := hc 5 (by decide)
  have c6 := hc 6 (by decide)
  have c7 := hc 7 (by decide)
  have s3 : gSl (.own (.im (dl sh))) (some 3) none = .ok (.own (li (sh.drop 3))) := sl_dl (by decide)
  unfold fr at *
  unfold F1_law
  simp only [fSeq_eq, seqO_nx, seqO_rt, seqO_bk, seqO_ct, seqO_ex, seqO_bad, seqO_ite, fAft_eq, aftO_nx, aftO_rt, aftO_ex, aftO_bad, aftO_ite, endO_nx, endO_rt, endO_ex, endO_bad, endO_ite, goE_ite, bind_ite, eq_int, ne_int, ix_tup0, ix_tup1, ix_tup2, ix_tup3, ix_tup4, ix_lst0, ix_lst1, ix_lst2, ix_lst3, ix_lst4, fIfS, fAsg, fBef, frz1, fRet, fRetV, fDrop, fApp, fSetAt, fAug, fFor, fRaise, fNext, goE_ok, goE_ex, goE_bad, fTst, fB, fNeg, gNeg, gI, gI0, gB0, fVar, fC, fCB, fCons, fNil, fTup, fLst, fIf, fAnd, fOr, fNot, fAndV, fOrV, fNotV, fIsT, gIsT, D.ty, fChain, fSl, oI, ownAll, Cl.owned, Cl.toD, Cl.m, view, clB, R.bind_ok, R.bind_ex, R.bind_bad, okI, okB, asB, startE, argM, gCall_eq, callO_some, resC_ok, resC_ex, resC_bad, resC_ite, argD, arg1, gAbs, gInt, gGcd, gLen, gIsN, D.isN, mkTup, isIm, M.toD, M.toDs, M.pure, M.pures, gNm, iR1, iR2, iSq, itemsE, List.set_cons_zero, List.set_cons_succ, List.getElem?_cons_zero, List.getElem?_cons_succ, List.getElem?_nil, List.cons_append, List.nil_append, List.append_nil, List.length_cons, List.length_nil, List.replicate_succ, List.replicate_zero, List.set_nil, List.all_cons, List.all_nil, Bool.and_true, Bool.true_and, Bool.and_self, if_true, if_false, if_pos, Bool.false_eq_true, decide_true, decide_false, Nat.reduceAdd, Nat.reduceSub, ite_true, ite_false, Bool.not_true, Bool.not_false, kit_ii, kit_ib, kit_bb, kit_bi, kit_tt, kit_it, lenOk, smOk, Nat.reduceLeDiff, Nat.reduceLT, decide_eq_true_eq, Bool.and_eq_true, fTry_eq, tryO_nx, tryO_rt, tryO_bk, tryO_ct, tryO_ex, tryO_ite, fHd, fHdAs, calmO, calmO_ite, outI, outI_ite, fIs, isQ_exc, isQ_obj, isQ, isT2, fAt, gAt, fl_imE, fl_boE, fl_imO, fl_boO, fl_obj, fg_t, fg_f, imF, boF, fRaise, pures_ints, it_imL, it_imT, it_imF, it_boL, it_boT, it_boF, it_lst, it_tup, it_li, items_dl, List.map_cons, List.map_nil, toDs_ints, pures_ims, toDs_ims, li_pure, li_toD, ld_pure, ld_toD, hn, c0, c1, c2, c3, c4, c5, c6, c7, L1, L2, L5, L6, L7, j0, j1, j2, j6, j7, o, o2, o3, o6, s3, ite_nx, ite_cc, ite_same, ite_some, ite_im, ite_int, hnum, hden, habove, hcommon, m1, m2, hw, hs, p1, p2, r1, r2, ht, hf, df, ha, da]
end K0
set_option Elab.async false
set_option linter.all false
set_option maxRecDepth 100000
set_option maxHeartbeats 4000000
set_option exponentiation.threshold 5000
namespace K0
open PySem L2 NW
theorem intsD_map : ∀ ns : List Int, intsD (ns.map .int) = some ns
  | [] => rfl
  | n :: ns => by simp only [List.map_cons, intsD, intsD_map ns, Option.map_some]
theorem low_of {a b : Int} {k : Nat} (hk : k ≤ 120) (h1 : 1 ≤ b) (h2 : gd a b = 1) (h3 : Bd k a = true) (h4 : Bd k b = true) : Low a b = true := by
  unfold Low
  rw [decide_eq_true h1, decide_eq_true h2, bd_mono h3 hk, bd_mono h4 hk]; rfl
theorem lowest_facts {n d : Int} {k : Nat} (h : 1 ≤ d) (hn : Bd k n = true) (hd : Bd k d = true) : 1 ≤ (lowest n d).2 ∧ gd (lowest n d).1 (lowest n d).2 = 1 ∧ Bd k (lowest n d).1 = true ∧ Bd k (lowest n d).2 = true := by
  have := frac_facts (n := n) (d := d) (by omega)
  unfold frN frD at this
  rw [if_neg (by omega), if_neg (by omega)] at this
  obtain ⟨a, b, c, e, f⟩ := this
  exact ⟨a, b, bd_abs hn e, bd_abs hd f⟩
theorem lowest_low {n d : Int} {k : Nat} (hk : k ≤ 120) (h : 1 ≤ d) (hn : Bd k n = true) (hd : Bd k d = true) : Low (lowest n d).1 (lowest n d).2 = true := by
  obtain ⟨a, b, c, e⟩ := lowest_facts h hn hd
  exact low_of hk a b c e
theorem bd_zneg {k : Nat} {a : Int} (h : Bd k a = true) : Bd k (0 - a) = true := by rw [Int.zero_sub, bd_neg]; exact h
theorem second_low {a b : Int} (h1 : 1 ≤ b) (h2 : gd a b = 1) (h3 : Bd 99 a = true) (h4 : Bd 99 b = true) (k : Int) (ns : List Int) (f s : Int) : Low (second a b k ns f s).1 (second a b k ns f s).2 = true := by
  have n1 : 1 ≤ nearN ns := by unfold nearN; omega
  have n9 : nearN ns ≤ 9 := by unfold nearN; omega
  have bn : Bd 4 (nearN ns) = true := Bd_small 4 (by decide) (by omega) (by omega)
  have bm : ∀ i, Bd 4 (i % nearN ns) = true := fun i => by
    have h0 := Int.emod_nonneg i (show nearN ns ≠ 0 by omega)
    have h1 := Int.emod_lt_of_pos i (show 0 < nearN ns by omega)
    exact Bd_small 4 (by decide) (by omega) (by omega)
  have P1 := P29_1
  have l1 := largeN_range f P29 (by omega)
  have l2 := largeN_range s (P29 - 1) (by omega)
  have bP := P29_b
  unfold second
  split
  · exact low_of (k := 99) (by decide) h1 h2 h3 h4
  split
  · refine low_of (k := 99) (by decide) h1 ?_ (bd_zneg h3) h4
    have : gd (0 - a) b = gd a b := by unfold gd; rw [Int.zero_sub, Int.natAbs_neg]
    rw [this]; exact h2
  split
  · exact lowest_low (k := 100) (by decide) h1 (bd_add h3 (bd_mono bn (by decide))) (bd_mono h4 (by decide))
  split
  · exact lowest_low (k := 100) (by decide) (by omega) (bd_mono h3 (by decide)) (bd_add h4 (bd_mono bn (by decide)))
  split
  · exact lowest_low (k := 104) (by decide) n1 (bd_add (k := 103) (bd_mono (bd_mul (bd_div h3) bn) (by decide)) (bd_mono (bm _) (by decide))) (bd_mono bn (by decide))
  · have b0 : Bd 99 0 = true := Bd_small 99 (by decide) (by decide) (by decide)
    refine lowest_low (k := 99) (by decide) (by omega) ?_ (bd_le bP (by omega) (by omega))
    split <;> split
    · exact bd_zneg b0
    · exact bd_zneg (bd_le bP l1.1 l1.2)
    · exact b0
    · exact bd_le bP l1.1 l1.2
theorem pair_sp {a b c d : Int} (h : Low a b = true) (q : Low c d = true) : sp__law_pair_is_told [fr a b, fr c d] = .ok (.im (.bl true)) := by
  show (if (Low a b && Low c d) = true then R.ok (M.im (.bl true)) else .bad) = _
  rw [h, q]; rfl
theorem refused1 {a b c d : Int} (h : B4 a b c d = true) (e : b * c = 0) : sp__law_refused [.int 1, fr a b, fr c d] = .ok (.im (.bl true)) := by
  show (if (1 : Int) ≠ 0 ∧ B4 a b c d = true then R.ok (M.im (.bl (decide (b * c = 0)))) else .bad) = _
  rw [if_pos ⟨by decide, h⟩, decide_eq_true e]
theorem second_sp {a b k f s : Int} {l : List Int} (hl : 3 ≤ l.length) (hb : 0 < b) (h1 : Bd 100 a = true) (h2 : Bd 100 b = true) : sp__law_second [fr a b, .int k, dl l, .int f, .int s] = .ok (.im (pr (second a b k l f s))) := by
  unfold fr dl sp__law_second
  simp only [intsD_map]
  rw [if_pos ⟨hl, hb, by rw [h1, h2]; rfl⟩]
theorem told_sp {n d : Int} (h : 1 ≤ d) (k1 : Bd 240 n = true) (k2 : Bd 240 d = true) : sp__law_frac_is_told [.int n, .int d] = .ok (.im (.bl true)) := by
  show (if 1 ≤ d ∧ (Bd 240 n && Bd 240 d) = true then R.ok (M.im (.bl true)) else .bad) = _
  rw [if_pos ⟨h, by rw [k1, k2]; rfl⟩]
theorem cell_sp {ns : List Int} {k : Int} (hk : 0 ≤ k) : sp__law_cell [.fz ns, .int k] = .ok (.im (.int (cellN ns k))) := by
  show (if 0 ≤ k then _ else _) = _
  rw [if_pos hk]
theorem add_sp {a b c d : Int} (h : B4 a b c d = true) : sp_add [fr a b, fr c d] = sp_frac [.int (a * d + c * b), .int (b * d)] := by
  show (if B4 a b c d = true then _ else _) = _
  rw [if_pos h]
theorem h_law : ∀ ds, sp_law ds ≠ .bad → endO (f_law (startE 9 [true] ds)) = sp_law ds := by
  intro ds h
  unfold sp_law at h ⊢
  split at h
  · rename_i ns
    split at h
    · rename_i hb
      rw [if_pos hb, ff_law, F1_eq]
      have ne := numbers_eq (cellN ns 0) 8 (by decide) (by decide)
      have nl : (numbers (cellN ns 0) 8).length = 8 := by rw [numbers_len]
      have P1 := P29_1
      have bP := P29_b
      have Q2 := Q30_2
      have bQ := Q30_b
      have L1 := largeN_range (cellN ns 1) P29 (by omega)
      have L2 := largeN_range (cellN ns 2) (P29 - 1) (by omega)
      have L5 := largeN_range (cellN ns 5) (Q30 - 1) (by omega)
      have L6 := largeN_range (cellN ns 6) (Q30 - 2) (by omega)
      have L7 := largeN_range (cellN ns 7) (Q30 - 2) (by omega)
      have hc : ∀ k, 0 ≤ k → sp__law_cell [.fz ns, .int k] = .ok (.im (.int (cellN ns k))) := fun k hk => by
        exact cell_sp hk
      rw [show (8 : Int).toNat = 8 from rfl] at ne
      generalize numbers (cellN ns 0) 8 = sh at ne nl
      obtain ⟨num, hnum⟩ : ∃ x, (if sh.getD 1 0 % 2 = 1 then 0 - (if sh.getD 0 0 % 8 = 0 then 0 else largeN (cellN ns 1) P29) else (if sh.getD 0 0 % 8 = 0 then 0 else largeN (cellN ns 1) P29)) = x := ⟨_, rfl⟩
      obtain ⟨den, hden⟩ : ∃ x, (if sh.getD 0 0 % 8 = 1 then 1 else 1 + largeN (cellN ns 2) (P29 - 1)) = x := ⟨_, rfl⟩
      obtain ⟨above, habove⟩ : ∃ x, (if sh.getD 7 0 % 6 = 0 then 0 else largeN (cellN ns 5) (Q30 - 1)) = x := ⟨_, rfl⟩
      obtain ⟨common, hcommon⟩ : ∃ x, (if sh.getD 6 0 % 3 = 0 then 1 else 1 + largeN (cellN ns 7) (Q30 - 2)) = x := ⟨_, rfl⟩
      have b0 : Bd 99 0 = true := Bd_small 99 (by decide) (by decide) (by decide)
      have bnum : Bd 99 num = true := by
        rw [← hnum]
        split <;> split
        · exact bd_zneg b0
        · exact bd_zneg (bd_le bP L1.1 L1.2)
        · exact b0
        · exact bd_le bP L1.1 L1.2
      have den1 : 1 ≤ den ∧ den ≤ P29 := by rw [← hden]; split <;> omega
      have bden : Bd 99 den = true := bd_le bP (by omega) den1.2
      have ab : Bd 100 above = true := by
        have : 0 ≤ above ∧ above ≤ Q30 := by rw [← habove]; split <;> omega
        exact bd_le bQ this.1 this.2
      have cm : 1 ≤ common ∧ common ≤ Q30 := by rw [← hcommon]; split <;> omega
      have cb : Bd 100 common = true := bd_le bQ (by omega) cm.2
      have lb : Bd 100 (1 + largeN (cellN ns 6) (Q30 - 2)) = true := bd_le bQ (by omega) (by omega)
      obtain ⟨x1, x2, x3, x4⟩ := lowest_facts den1.1 bnum bden
      have lx : Low (lowest num den).1 (lowest num den).2 = true := low_of (by decide) x1 x2 x3 x4
      have ly := second_low x1 x2 x3 x4 (sh.getD 2 0 % 8) (sh.drop 3) (cellN ns 3) (cellN ns 4)
      have e1 := lowest_sp num den (bd_mono bnum (by decide)) (bd_mono bden (by decide)) (by omega)
      have e2 : sp__law_second [fr (lowest num den).1 (lowest num den).2, .int (sh.getD 2 0 % 8), dl (sh.drop 3), .int (cellN ns 3), .int (cellN ns 4)] = .ok (.im (pr (second (lowest num den).1 (lowest num den).2 (sh.getD 2 0 % 8) (sh.drop 3) (cellN ns 3) (cellN ns 4)))) := second_sp (by rw [List.length_drop]; omega) (by omega) (bd_mono x3 (by decide)) (bd_mono x4 (by decide))
      generalize second (lowest num den).1 (lowest num den).2 (sh.getD 2 0 % 8) (sh.drop 3) (cellN ns 3) (cellN ns 4) = y at ly e2
      generalize lowest num den = x at x1 x2 x3 x4 lx e1 e2
      have v : ∀ {i : Int}, Bd 99 i = true → Bd 1000 i = true := fun h => bd_mono h (by decide)
      have c01 : ∀ {i : Int} {k : Nat}, 4 ≤ k → -1 ≤ i → i ≤ 1 → Bd k i = true := fun h q r => Bd_small _ h (by omega) (by omega)
      have hB : B4 x.1 x.2 0 1 = true := by
        unfold B4
        rw [v x3, v x4, c01 (by decide) (by decide) (by decide), c01 (by decide) (by decide) (by decide)]; rfl
      have hB' : B4 0 1 0 1 = true := by
        unfold B4
        rw [c01 (i := 0) (by decide) (by decide) (by decide), c01 (i := 1) (by decide) (by decide) (by decide)]; rfl
      have F1 := frac_due (n := x.1) (d := x.2) (n' := x.1) (d' := x.2) (by omega) (bd_mono x3 (by decide)) (bd_mono x4 (by decide)) (v x3) (v x4) rfl
      have F2 := frac_due (n := x.1 * 1 + 0 * x.2) (d := x.2 * 1) (n' := x.1) (d' := x.2) (by omega) (by rw [Int.mul_one, Int.zero_mul, Int.add_zero]; exact bd_mono x3 (by decide)) (by rw [Int.mul_one]; exact bd_mono x4 (by decide)) (v x3) (v x4) (by rw [Int.mul_one, Int.zero_mul, Int.add_zero, Int.mul_one])
      have ht : sp__law_frac_is_told [.int (above * common), .int ((1 + largeN (cellN ns 6) (Q30 - 2)) * common)] = .ok (.im (.bl true)) := by
        have pos : 1 ≤ (1 + largeN (cellN ns 6) (Q30 - 2)) * common := Int.mul_pos (by omega) (by omega)
        have k1 : Bd 240 (above * common) = true := bd_mono (bd_mul ab cb) (by decide)
        have k2 : Bd 240 ((1 + largeN (cellN ns 6) (Q30 - 2)) * common) = true := bd_mono (bd_mul lb cb) (by decide)
        exact told_sp pos k1 k2
      have ha : sp_add [fr x.1 x.2, fr 0 1] = .ok (.im (fr (frN (x.1 * 1 + 0 * x.2) (x.2 * 1)) (frD (x.1 * 1 + 0 * x.2) (x.2 * 1)))) := by
        rw [add_sp hB]; exact F2.1
      exact law_body sp__law_numbers sp__law_cell sp__law_large sp__law_lowest sp__law_second sp__law_pair_is_told sp__law_refused sp__law_frac_is_told sp__law_is_due sp_frac sp_add P29 Q30 ns sh (cellN ns) largeN nl hc ne large_sp x.1 x.2 y.1 y.2 num den above common P1 Q2 _ _
        hnum hden habove hcommon (mulOk_of ab cb (by decide) (by decide) (by decide)) (mulOk_of lb cb (by decide) (by decide) (by decide)) e1 e2 (pair_sp lx ly) (pair_sp ly lx) (refused1 hB (Int.mul_zero _)) (refused1 hB' rfl) ht F1.1 F1.2 ha F2.2
    · exact absurd rfl h
  · exact absurd rfl h
end K0
set_option Elab.async false
set_option linter.all false
set_option maxRecDepth 100000
set_option maxHeartbeats 4000000
set_option exponentiation.threshold 5000
namespace K0
open PySem L2 NW
theorem refused_body (gf gd' : List NW.D → R M) (w : Int) (x y : NW.D) (r : Bool) (A : NW.D) (h0 : w = 0 → gf [x, y] = if r = true then .ex "BadFraction" [] else .ok (.im A)) (h1 : w ≠ 0 → gd' [x, y] = if r = true then .ex "BadFraction" [] else .ok (.im A)) :
    endO (F__law_refused gf gd' (startE 4 [true, true, true] [.int w, x, y])) = .ok (.im (.bl r)) := by
  unfold F__law_refused b__law_refused_0 h__law_refused_1 h__law_refused_2
  cases r with
  | true =>
    by_cases w0 : w = 0
    · simp only [fSeq_eq, seqO_nx, seqO_rt, seqO_bk, seqO_ct, seqO_ex, seqO_bad, seqO_ite, fAft_eq, aftO_nx, aftO_rt, aftO_ex, aftO_bad, aftO_ite, endO_nx, endO_rt, endO_ex, endO_bad, endO_ite, goE_ite, bind_ite, eq_int, ne_int, ix_tup0, ix_tup1, ix_tup2, ix_tup3, ix_tup4, ix_lst0, ix_lst1, ix_lst2, ix_lst3, ix_lst4, fIfS, fAsg, fBef, frz1, fRet, fRetV, fDrop, fApp, fSetAt, fAug, fFor, fRaise, fNext, goE_ok, goE_ex, goE_bad, fTst, fB, fNeg, gNeg, gI, gI0, gB0, fVar, fC, fCB, fCons, fNil, fTup, fLst, fIf, fAnd, fOr, fNot, fAndV, fOrV, fNotV, fIsT, gIsT, D.ty, fChain, fSl, oI, ownAll, Cl.owned, Cl.toD, Cl.m, view, clB, R.bind_ok, R.bind_ex, R.bind_bad, okI, okB, asB, startE, argM, gCall_eq, callO_some, resC_ok, resC_ex, resC_bad, resC_ite, argD, arg1, gAbs, gInt, gGcd, gLen, gIsN, D.isN, mkTup, isIm, M.toD, M.toDs, M.pure, M.pures, gNm, iR1, iR2, iSq, itemsE, List.set_cons_zero, List.set_cons_succ, List.getElem?_cons_zero, List.getElem?_cons_succ, List.getElem?_nil, List.cons_append, List.nil_append, List.append_nil, List.length_cons, List.length_nil, List.replicate_succ, List.replicate_zero, List.set_nil, List.all_cons, List.all_nil, Bool.and_true, Bool.true_and, Bool.and_self, if_true, if_false, if_pos, Bool.false_eq_true, decide_true, decide_false, Nat.reduceAdd, Nat.reduceSub, ite_true, ite_false, Bool.not_true, Bool.not_false, kit_ii, kit_ib, kit_bb, kit_bi, kit_tt, kit_it, lenOk, smOk, Nat.reduceLeDiff, Nat.reduceLT, decide_eq_true_eq, Bool.and_eq_true, fTry_eq, tryO_nx, tryO_rt, tryO_bk, tryO_ct, tryO_ex, tryO_ite, fHd, fHdAs, calmO, calmO_ite, outI, outI_ite, fIs, isQ_exc, isQ_obj, isQ, isT2, fAt, gAt, fl_imE, fl_boE, fl_imO, fl_boO, fl_obj, fg_t, fg_f, imF, boF, fRaise, pures_ints, it_imL, it_imT, it_imF, it_boL, it_boT, it_boF, it_lst, it_tup, it_li, items_dl, List.map_cons, List.map_nil, toDs_ints, pures_ims, toDs_ims, li_pure, li_toD, ld_pure, ld_toD, w0, h0 w0, tx_BadFraction_BadFraction, te_BadFraction_WorseError, te_BadFraction_ValueError, te_BadFraction_BadRatio]
    · simp only [fSeq_eq, seqO_nx, seqO_rt, seqO_bk, seqO_ct, seqO_ex, seqO_bad, seqO_ite, fAft_eq, aftO_nx, aftO_rt, aftO_ex, aftO_bad, aftO_ite, endO_nx, endO_rt, endO_ex, endO_bad, endO_ite, goE_ite, bind_ite, eq_int, ne_int, ix_tup0, ix_tup1, ix_tup2, ix_tup3, ix_tup4, ix_lst0, ix_lst1, ix_lst2, ix_lst3, ix_lst4, fIfS, fAsg, fBef, frz1, fRet, fRetV, fDrop, fApp, fSetAt, fAug, fFor, fRaise, fNext, goE_ok, goE_ex, goE_bad, fTst, fB, fNeg, gNeg, gI, gI0, gB0, fVar, fC, fCB, fCons, fNil, fTup, fLst, fIf, fAnd, fOr, fNot, fAndV, fOrV, fNotV, fIsT, gIsT, D.ty, fChain, fSl, oI, ownAll, Cl.owned, Cl.toD, Cl.m, view, clB, R.bind_ok, R.bind_ex, R.bind_bad, okI, okB, asB, startE, argM, gCall_eq, callO_some, resC_ok, resC_ex, resC_bad, resC_ite, argD, arg1, gAbs, gInt, gGcd, gLen, gIsN, D.isN, mkTup, isIm, M.toD, M.toDs, M.pure, M.pures, gNm, iR1, iR2, iSq, itemsE, List.set_cons_zero, List.set_cons_succ, List.getElem?_cons_zero, List.getElem?_cons_succ, List.getElem?_nil, List.cons_append, List.nil_append, List.append_nil, List.length_cons, List.length_nil, List.replicate_succ, List.replicate_zero, List.set_nil, List.all_cons, List.all_nil, Bool.and_true, Bool.true_and, Bool.and_self, if_true, if_false, if_pos, Bool.false_eq_true, decide_true, decide_false, Nat.reduceAdd, Nat.reduceSub, ite_true, ite_false, Bool.not_true, Bool.not_false, kit_ii, kit_ib, kit_bb, kit_bi, kit_tt, kit_it, lenOk, smOk, Nat.reduceLeDiff, Nat.reduceLT, decide_eq_true_eq, Bool.and_eq_true, fTry_eq, tryO_nx, tryO_rt, tryO_bk, tryO_ct, tryO_ex, tryO_ite, fHd, fHdAs, calmO, calmO_ite, outI, outI_ite, fIs, isQ_exc, isQ_obj, isQ, isT2, fAt, gAt, fl_imE, fl_boE, fl_imO, fl_boO, fl_obj, fg_t, fg_f, imF, boF, fRaise, pures_ints, it_imL, it_imT, it_imF, it_boL, it_boT, it_boF, it_lst, it_tup, it_li, items_dl, List.map_cons, List.map_nil, toDs_ints, pures_ims, toDs_ims, li_pure, li_toD, ld_pure, ld_toD, w0, h1 w0, tx_BadFraction_BadFraction, te_BadFraction_WorseError, te_BadFraction_ValueError, te_BadFraction_BadRatio]
  | false =>
    by_cases w0 : w = 0
    · simp only [fSeq_eq, seqO_nx, seqO_rt, seqO_bk, seqO_ct, seqO_ex, seqO_bad, seqO_ite, fAft_eq, aftO_nx, aftO_rt, aftO_ex, aftO_bad, aftO_ite, endO_nx, endO_rt, endO_ex, endO_bad, endO_ite, goE_ite, bind_ite, eq_int, ne_int, ix_tup0, ix_tup1, ix_tup2, ix_tup3, ix_tup4, ix_lst0, ix_lst1, ix_lst2, ix_lst3, ix_lst4, fIfS, fAsg, fBef, frz1, fRet, fRetV, fDrop, fApp, fSetAt, fAug, fFor, fRaise, fNext, goE_ok, goE_ex, goE_bad, fTst, fB, fNeg, gNeg, gI, gI0, gB0, fVar, fC, fCB, fCons, fNil, fTup, fLst, fIf, fAnd, fOr, fNot, fAndV, fOrV, fNotV, fIsT, gIsT, D.ty, fChain, fSl, oI, ownAll, Cl.owned, Cl.toD, Cl.m, view, clB, R.bind_ok, R.bind_ex, R.bind_bad, okI, okB, asB, startE, argM, gCall_eq, callO_some, resC_ok, resC_ex, resC_bad, resC_ite, argD, arg1, gAbs, gInt, gGcd, gLen, gIsN, D.isN, mkTup, isIm, M.toD, M.toDs, M.pure, M.pures, gNm, iR1, iR2, iSq, itemsE, List.set_cons_zero, List.set_cons_succ, List.getElem?_cons_zero, List.getElem?_cons_succ, List.getElem?_nil, List.cons_append, List.nil_append, List.append_nil, List.length_cons, List.length_nil, List.replicate_succ, List.replicate_zero, List.set_nil, List.all_cons, List.all_nil, Bool.and_true, Bool.true_and, Bool.and_self, if_true, if_false, if_pos, Bool.false_eq_true, decide_true, decide_false, Nat.reduceAdd, Nat.reduceSub, ite_true, ite_false, Bool.not_true, Bool.not_false, kit_ii, kit_ib, kit_bb, kit_bi, kit_tt, kit_it, lenOk, smOk, Nat.reduceLeDiff, Nat.reduceLT, decide_eq_true_eq, Bool.and_eq_true, fTry_eq, tryO_nx, tryO_rt, tryO_bk, tryO_ct, tryO_ex, tryO_ite, fHd, fHdAs, calmO, calmO_ite, outI, outI_ite, fIs, isQ_exc, isQ_obj, isQ, isT2, fAt, gAt, fl_imE, fl_boE, fl_imO, fl_boO, fl_obj, fg_t, fg_f, imF, boF, fRaise, pures_ints, it_imL, it_imT, it_imF, it_boL, it_boT, it_boF, it_lst, it_tup, it_li, items_dl, List.map_cons, List.map_nil, toDs_ints, pures_ims, toDs_ims, li_pure, li_toD, ld_pure, ld_toD, w0, h0 w0]
    · simp only [fSeq_eq, seqO_nx, seqO_rt, seqO_bk, seqO_ct, seqO_ex, seqO_bad, seqO_ite, fAft_eq, aftO_nx, aftO_rt, aftO_ex, aftO_bad, aftO_ite, endO_nx, endO_rt, endO_ex, endO_bad, endO_ite, goE_ite, bind_ite, eq_int, ne_int, ix_tup0, ix_tup1, ix_tup2, ix_tup3, ix_tup4, ix_lst0, ix_lst1, ix_lst2, ix_lst3, ix_lst4, fIfS, fAsg, fBef, frz1, fRet, fRetV, fDrop, fApp, fSetAt, fAug, fFor, fRaise, fNext, goE_ok, goE_ex, goE_bad, fTst, fB, fNeg, gNeg, gI, gI0, gB0, fVar, fC, fCB, fCons, fNil, fTup, fLst, fIf, fAnd, fOr, fNot, fAndV, fOrV, fNotV, fIsT, gIsT, D.ty, fChain, fSl, oI, ownAll, Cl.owned, Cl.toD, Cl.m, view, clB, R.bind_ok, R.bind_ex, R.bind_bad, okI, okB, asB, startE, argM, gCall_eq, callO_some, resC_ok, resC_ex, resC_bad, resC_ite, argD, arg1, gAbs, gInt, gGcd, gLen, gIsN, D.isN, mkTup, isIm, M.toD, M.toDs, M.pure, M.pures, gNm, iR1, iR2, iSq, itemsE, List.set_cons_zero, List.set_cons_succ, List.getElem?_cons_zero, List.getElem?_cons_succ, List.getElem?_nil, List.cons_append, List.nil_append, List.append_nil, List.length_cons, List.length_nil, List.replicate_succ, List.replicate_zero, List.set_nil, List.all_cons, List.all_nil, Bool.and_true, Bool.true_and, Bool.and_self, if_true, if_false, if_pos, Bool.false_eq_true, decide_true, decide_false, Nat.reduceAdd, Nat.reduceSub, ite_true, ite_false, Bool.not_true, Bool.not_false, kit_ii, kit_ib, kit_bb, kit_bi, kit_tt, kit_it, lenOk, smOk, Nat.reduceLeDiff, Nat.reduceLT, decide_eq_true_eq, Bool.and_eq_true, fTry_eq, tryO_nx, tryO_rt, tryO_bk, tryO_ct, tryO_ex, tryO_ite, fHd, fHdAs, calmO, calmO_ite, outI, outI_ite, fIs, isQ_exc, isQ_obj, isQ, isT2, fAt, gAt, fl_imE, fl_boE, fl_imO, fl_boO, fl_obj, fg_t, fg_f, imF, boF, fRaise, pures_ints, it_imL, it_imT, it_imF, it_boL, it_boT, it_boF, it_lst, it_tup, it_li, items_dl, List.map_cons, List.map_nil, toDs_ints, pures_ims, toDs_ims, li_pure, li_toD, ld_pure, ld_toD, w0, h1 w0]
theorem h__law_refused : ∀ ds, sp__law_refused ds ≠ .bad → endO (f__law_refused (startE 4 [true, true, true] ds)) = sp__law_refused ds := by
  intro ds h
  rw [ff__law_refused]
  unfold sp__law_refused at h ⊢
  split at h
  · rename_i w n d
    split at h
    · rename_i hb
      rw [if_pos hb]
      obtain ⟨rfl, hb⟩ := hb
      rw [Bool.and_eq_true] at hb
      refine refused_body _ _ 0 _ _ (decide (d = 0)) (fr (frN n d) (frD n d)) (fun _ => ?_) (fun z => absurd rfl z)
      rw [frac_eq hb.1 hb.2]
      by_cases d0 : d = 0
      · rw [if_pos d0, if_pos (decide_eq_true d0)]
      · rw [if_neg d0, if_neg (by simpa using d0)]
    · exact absurd rfl h
  · rename_i w a b c d
    split at h
    · rename_i hb
      rw [if_pos hb]
      obtain ⟨w0, hb⟩ := hb
      obtain ⟨h1, h2, h3, h4⟩ := b4 hb
      refine refused_body _ _ w _ _ (decide (b * c = 0)) (fr (frN (a * d) (b * c)) (frD (a * d) (b * c))) (fun z => absurd z w0) (fun _ => ?_)
      have e : sp_divide [.tup [.int a, .int b], .tup [.int c, .int d]] = sp_frac [.int (a * d), .int (b * c)] := by
        show (if B4 a b c d = true then _ else _) = _
        rw [if_pos hb]
      rw [e, frac_eq (bd_mono (bd_mul h1 h4) (by decide)) (bd_mono (bd_mul h2 h3) (by decide))]
      by_cases d0 : b * c = 0
      · rw [if_pos d0, if_pos (decide_eq_true d0)]
      · rw [if_neg d0, if_neg (by simpa using d0)]
    · exact absurd rfl h
  · exact absurd rfl h
theorem law_true {ns : List Int} (h : ns.length ≤ 63) : sp_law [.fz ns] = .ok (.im (.bl true)) := by
  show (if ns.length ≤ 63 then _ else _) = _
  rw [if_pos h]
end K0
set_option Elab.async false
set_option linter.all false
set_option maxRecDepth 100000
set_option maxHeartbeats 4000000
namespace K0
open PySem PySem.Spec PyProof.Rows L2 NW
def top (i : Nat) : Stmt := PySem.Challenge.pw_neverworsethan_k00_fractions_by_cross_pr.main.body.getD i (.Pass ⟨0, 0, 0, 0⟩)
abbrev s_frac : Stmt := top 6
theorem sc_frac : FnScope ["num", "den", "common"] ["num", "den"] (defScope s_frac) := ⟨rfl, rfl, rfl, by decide +kernel, rfl, by decide +kernel, by decide +kernel⟩
def d_frac : He.DefD := ⟨("frac", none), "frac", "frac", defArgs s_frac, defBody s_frac, defScope s_frac, [], []⟩
abbrev s_add : Stmt := top 7
theorem sc_add : FnScope ["x", "y"] ["x", "y"] (defScope s_add) := ⟨rfl, rfl, rfl, by decide +kernel, rfl, by decide +kernel, by decide +kernel⟩
def d_add : He.DefD := ⟨("add", none), "add", "add", defArgs s_add, defBody s_add, defScope s_add, [], []⟩
abbrev s_subtract : Stmt := top 8
theorem sc_subtract : FnScope ["x", "y"] ["x", "y"] (defScope s_subtract) := ⟨rfl, rfl, rfl, by decide +kernel, rfl, by decide +kernel, by decide +kernel⟩
def d_subtract : He.DefD := ⟨("subtract", none), "subtract", "subtract", defArgs s_subtract, defBody s_subtract, defScope s_subtract, [], []⟩
abbrev s_times : Stmt := top 9
theorem sc_times : FnScope ["x", "y"] ["x", "y"] (defScope s_times) := ⟨rfl, rfl, rfl, by decide +kernel, rfl, by decide +kernel, by decide +kernel⟩
def d_times : He.DefD := ⟨("times", none), "times", "times", defArgs s_times, defBody s_times, defScope s_times, [], []⟩
abbrev s_divide : Stmt := top 10
theorem sc_divide : FnScope ["x", "y"] ["x", "y"] (defScope s_divide) := ⟨rfl, rfl, rfl, by decide +kernel, rfl, by decide +kernel, by decide +kernel⟩
def d_divide : He.DefD := ⟨("divide", none), "divide", "divide", defArgs s_divide, defBody s_divide, defScope s_divide, [], []⟩
abbrev s_compare : Stmt := top 11
theorem sc_compare : FnScope ["x", "y", "left", "right"] ["x", "y"] (defScope s_compare) := ⟨rfl, rfl, rfl, by decide +kernel, rfl, by decide +kernel, by decide +kernel⟩
def d_compare : He.DefD := ⟨("compare", none), "compare", "compare", defArgs s_compare, defBody s_compare, defScope s_compare, [], []⟩
abbrev s_greater : Stmt := top 12
theorem sc_greater : FnScope ["x", "y"] ["x", "y"] (defScope s_greater) := ⟨rfl, rfl, rfl, by decide +kernel, rfl, by decide +kernel, by decide +kernel⟩
def d_greater : He.DefD := ⟨("greater", none), "greater", "greater", defArgs s_greater, defBody s_greater, defScope s_greater, [], []⟩
abbrev s__law_is_integer : Stmt := top 14
theorem sc__law_is_integer : FnScope ["actual"] ["actual"] (defScope s__law_is_integer) := ⟨rfl, rfl, rfl, by decide +kernel, rfl, by decide +kernel, by decide +kernel⟩
def d__law_is_integer : He.DefD := ⟨("_law_is_integer", none), "_law_is_integer", "_law_is_integer", defArgs s__law_is_integer, defBody s__law_is_integer, defScope s__law_is_integer, [], []⟩
abbrev s__law_cell : Stmt := top 15
theorem sc__law_cell : FnScope ["script", "k"] ["script", "k"] (defScope s__law_cell) := ⟨rfl, rfl, rfl, by decide +kernel, rfl, by decide +kernel, by decide +kernel⟩
def d__law_cell : He.DefD := ⟨("_law_cell", none), "_law_cell", "_law_cell", defArgs s__law_cell, defBody s__law_cell, defScope s__law_cell, [], []⟩
abbrev s__law_numbers : Stmt := top 16
theorem sc__law_numbers : FnScope ["cell", "many", "rest", "mixed", "told", "k"] ["cell", "many"] (defScope s__law_numbers) := ⟨rfl, rfl, rfl, by decide +kernel, rfl, by decide +kernel, by decide +kernel⟩
def d__law_numbers : He.DefD := ⟨("_law_numbers", none), "_law_numbers", "_law_numbers", defArgs s__law_numbers, defBody s__law_numbers, defScope s__law_numbers, [], []⟩
abbrev s__law_large : Stmt := top 17
theorem sc__law_large : FnScope ["cell", "most", "rest", "numbers", "told", "k"] ["cell", "most"] (defScope s__law_large) := ⟨rfl, rfl, rfl, by decide +kernel, rfl, by decide +kernel, by decide +kernel⟩
def d__law_large : He.DefD := ⟨("_law_large", none), "_law_large", "_law_large", defArgs s__law_large, defBody s__law_large, defScope s__law_large, [], []⟩
abbrev s__law_common : Stmt := top 18
theorem sc__law_common : FnScope ["first", "second", "one", "two", "turn", "rest"] ["first", "second"] (defScope s__law_common) := ⟨rfl, rfl, rfl, by decide +kernel, rfl, by decide +kernel, by decide +kernel⟩
def d__law_common : He.DefD := ⟨("_law_common", none), "_law_common", "_law_common", defArgs s__law_common, defBody s__law_common, defScope s__law_common, [], []⟩
abbrev s__law_lowest : Stmt := top 19
theorem sc__law_lowest : FnScope ["num", "den", "common"] ["num", "den"] (defScope s__law_lowest) := ⟨rfl, rfl, rfl, by decide +kernel, rfl, by decide +kernel, by decide +kernel⟩
def d__law_lowest : He.DefD := ⟨("_law_lowest", none), "_law_lowest", "_law_lowest", defArgs s__law_lowest, defBody s__law_lowest, defScope s__law_lowest, [], []⟩
abbrev s__law_is_due : Stmt := top 20
theorem sc__law_is_due : FnScope ["told", "num", "den"] ["told", "num", "den"] (defScope s__law_is_due) := ⟨rfl, rfl, rfl, by decide +kernel, rfl, by decide +kernel, by decide +kernel⟩
def d__law_is_due : He.DefD := ⟨("_law_is_due", none), "_law_is_due", "_law_is_due", defArgs s__law_is_due, defBody s__law_is_due, defScope s__law_is_due, [], []⟩
abbrev s__law_second : Stmt := top 21
theorem sc__law_second : FnScope ["x", "kind", "numbers", "first", "second", "near", "num"] ["x", "kind", "numbers", "first", "second"] (defScope s__law_second) := ⟨rfl, rfl, rfl, by decide +kernel, rfl, by decide +kernel, by decide +kernel⟩
def d__law_second : He.DefD := ⟨("_law_second", none), "_law_second", "_law_second", defArgs s__law_second, defBody s__law_second, defScope s__law_second, [], []⟩
abbrev s__law_refused : Stmt := top 22
theorem sc__law_refused : FnScope ["which", "x", "y", "e"] ["which", "x", "y"] (defScope s__law_refused) := ⟨rfl, rfl, rfl, by decide +kernel, rfl, by decide +kernel, by decide +kernel⟩
def d__law_refused : He.DefD := ⟨("_law_refused", none), "_law_refused", "_law_refused", defArgs s__law_refused, defBody s__law_refused, defScope s__law_refused, [], []⟩
abbrev s__law_pair_is_told : Stmt := top 23
theorem sc__law_pair_is_told : FnScope ["x", "y", "left", "right", "below", "order", "told", "due"] ["x", "y"] (defScope s__law_pair_is_told) := ⟨rfl, rfl, rfl, by decide +kernel, rfl, by decide +kernel, by decide +kernel⟩
def d__law_pair_is_told : He.DefD := ⟨("_law_pair_is_told", none), "_law_pair_is_told", "_law_pair_is_told", defArgs s__law_pair_is_told, defBody s__law_pair_is_told, defScope s__law_pair_is_told, [], []⟩
abbrev s__law_frac_is_told : Stmt := top 24
theorem sc__law_frac_is_told : FnScope ["num", "den", "above", "below"] ["num", "den"] (defScope s__law_frac_is_told) := ⟨rfl, rfl, rfl, by decide +kernel, rfl, by decide +kernel, by decide +kernel⟩
def d__law_frac_is_told : He.DefD := ⟨("_law_frac_is_told", none), "_law_frac_is_told", "_law_frac_is_told", defArgs s__law_frac_is_told, defBody s__law_frac_is_told, defScope s__law_frac_is_told, [], []⟩
abbrev s_law : Stmt := top 25
theorem sc_law : FnScope ["script", "shape", "num", "den", "x", "y", "above", "below", "common"] ["script"] (defScope s_law) := ⟨rfl, rfl, rfl, by decide +kernel, rfl, by decide +kernel, by decide +kernel⟩
def d_law : He.DefD := ⟨("law", none), "law", "law", defArgs s_law, defBody s_law, defScope s_law, [], []⟩
def fa : List He.Fa := [.glo "BadFraction", .glo "BadRatio", .glo "WorseError", .glo "_law_cell", .glo "_law_common", .glo "_law_frac_is_told", .glo "_law_is_due", .glo "_law_is_integer", .glo "_law_large", .glo "_law_lowest", .glo "_law_numbers", .glo "_law_pair_is_told", .glo "_law_refused", .glo "_law_second", .glo "add", .glo "compare", .glo "divide", .glo "frac", .glo "greater", .glo "law", .glo "subtract", .glo "times", .free "ValueError", .free "abs", .free "bool", .free "int", .free "isinstance", .free "len", .free "range", .free "tuple", .exc "BadFraction"]
def fn : List He.DefD := [d_frac, d_add, d_subtract, d_times, d_divide, d_compare, d_greater, d__law_is_integer, d__law_cell, d__law_numbers, d__law_large, d__law_common, d__law_lowest, d__law_is_due, d__law_second, d__law_refused, d__law_pair_is_told, d__law_frac_is_told, d_law]
def gl : List (Str × String) := [("gcd", "math.gcd")]
def exB (K : PySem.W.Frag) : Bool := tbl.ok K && NW.glbB gl K
structure Tx (K : PySem.W.Frag) (mg : Str → Option Value) : Prop where
  c : He.SaysD fa fn K
  tab : Tab K tb
  g_BadFraction : mg "BadFraction" = some (.ref (He.ga K "BadFraction"))
  g_BadRatio : mg "BadRatio" = some (.ref (He.ga K "BadRatio"))
  g_WorseError : mg "WorseError" = some (.ref (He.ga K "WorseError"))
  g__law_cell : mg "_law_cell" = some (.ref (He.ga K "_law_cell"))
  g__law_common : mg "_law_common" = some (.ref (He.ga K "_law_common"))
  g__law_frac_is_told : mg "_law_frac_is_told" = some (.ref (He.ga K "_law_frac_is_told"))
  g__law_is_due : mg "_law_is_due" = some (.ref (He.ga K "_law_is_due"))
  g__law_is_integer : mg "_law_is_integer" = some (.ref (He.ga K "_law_is_integer"))
  g__law_large : mg "_law_large" = some (.ref (He.ga K "_law_large"))
  g__law_lowest : mg "_law_lowest" = some (.ref (He.ga K "_law_lowest"))
  g__law_numbers : mg "_law_numbers" = some (.ref (He.ga K "_law_numbers"))
  g__law_pair_is_told : mg "_law_pair_is_told" = some (.ref (He.ga K "_law_pair_is_told"))
  g__law_refused : mg "_law_refused" = some (.ref (He.ga K "_law_refused"))
  g__law_second : mg "_law_second" = some (.ref (He.ga K "_law_second"))
  g_add : mg "add" = some (.ref (He.ga K "add"))
  g_compare : mg "compare" = some (.ref (He.ga K "compare"))
  g_divide : mg "divide" = some (.ref (He.ga K "divide"))
  g_frac : mg "frac" = some (.ref (He.ga K "frac"))
  g_greater : mg "greater" = some (.ref (He.ga K "greater"))
  g_law : mg "law" = some (.ref (He.ga K "law"))
  g_subtract : mg "subtract" = some (.ref (He.ga K "subtract"))
  g_times : mg "times" = some (.ref (He.ga K "times"))
  z_ValueError : mg "ValueError" = none
  z_abs : mg "abs" = none
  z_bool : mg "bool" = none
  z_int : mg "int" = none
  z_isinstance : mg "isinstance" = none
  z_len : mg "len" = none
  z_range : mg "range" = none
  z_tuple : mg "tuple" = none
  m_gcd : mg "gcd" = some (.builtin "math.gcd")
  e_BadFraction : PySem.W.excIn K (He.ga K "BadFraction") He.veBase "ValueError.__new__" = true ∧ PySem.W.keepIn K (.ref (He.ga K "BadFraction")) = true ∧ PySem.W.subIn K (.ref (He.ga K "BadFraction")) (.type "BaseException") = some true ∧ PySem.W.typeIn K (.ref (He.ga K "BadFraction")) = some (.type "type")
theorem tx {w : World} {K : PySem.W.Frag} {h : Heap} {mg : Str → Option Value} (X : K.In h) (G : h.Ns mainGlobals mg) (s : He.SaysX fa fn [] [] exB w h K) : Tx K mg := by
  have c := s.t.d
  obtain ⟨e1, e2⟩ := He.ba s.more
  exact {
    c := c
    tab := TbL.tab e1
    g_BadFraction := He.glo_ok X G (c.fact 0 (f := .glo "BadFraction") rfl)
    g_BadRatio := He.glo_ok X G (c.fact 1 (f := .glo "BadRatio") rfl)
    g_WorseError := He.glo_ok X G (c.fact 2 (f := .glo "WorseError") rfl)
    g__law_cell := He.glo_ok X G (c.fact 3 (f := .glo "_law_cell") rfl)
    g__law_common := He.glo_ok X G (c.fact 4 (f := .glo "_law_common") rfl)
    g__law_frac_is_told := He.glo_ok X G (c.fact 5 (f := .glo "_law_frac_is_told") rfl)
    g__law_is_due := He.glo_ok X G (c.fact 6 (f := .glo "_law_is_due") rfl)
    g__law_is_integer := He.glo_ok X G (c.fact 7 (f := .glo "_law_is_integer") rfl)
    g__law_large := He.glo_ok X G (c.fact 8 (f := .glo "_law_large") rfl)
    g__law_lowest := He.glo_ok X G (c.fact 9 (f := .glo "_law_lowest") rfl)
    g__law_numbers := He.glo_ok X G (c.fact 10 (f := .glo "_law_numbers") rfl)
    g__law_pair_is_told := He.glo_ok X G (c.fact 11 (f := .glo "_law_pair_is_told") rfl)
    g__law_refused := He.glo_ok X G (c.fact 12 (f := .glo "_law_refused") rfl)
    g__law_second := He.glo_ok X G (c.fact 13 (f := .glo "_law_second") rfl)
    g_add := He.glo_ok X G (c.fact 14 (f := .glo "add") rfl)
    g_compare := He.glo_ok X G (c.fact 15 (f := .glo "compare") rfl)
    g_divide := He.glo_ok X G (c.fact 16 (f := .glo "divide") rfl)
    g_frac := He.glo_ok X G (c.fact 17 (f := .glo "frac") rfl)
    g_greater := He.glo_ok X G (c.fact 18 (f := .glo "greater") rfl)
    g_law := He.glo_ok X G (c.fact 19 (f := .glo "law") rfl)
    g_subtract := He.glo_ok X G (c.fact 20 (f := .glo "subtract") rfl)
    g_times := He.glo_ok X G (c.fact 21 (f := .glo "times") rfl)
    z_ValueError := He.free_ok X G (c.fact 22 (f := .free "ValueError") rfl)
    z_abs := He.free_ok X G (c.fact 23 (f := .free "abs") rfl)
    z_bool := He.free_ok X G (c.fact 24 (f := .free "bool") rfl)
    z_int := He.free_ok X G (c.fact 25 (f := .free "int") rfl)
    z_isinstance := He.free_ok X G (c.fact 26 (f := .free "isinstance") rfl)
    z_len := He.free_ok X G (c.fact 27 (f := .free "len") rfl)
    z_range := He.free_ok X G (c.fact 28 (f := .free "range") rfl)
    z_tuple := He.free_ok X G (c.fact 29 (f := .free "tuple") rfl)
    m_gcd := glbB_ok X G e2 (List.mem_of_getElem? (i := 0) rfl)
    e_BadFraction := He.exc_ok (c.fact 30 (f := .exc "BadFraction") rfl)
  }
section
variable {P : Program} {w : World} {K : PySem.W.Frag} {mg : Str → Option Value} {base : Heap}
theorem ok_frac (T : Tx K mg) : Fok P w K mg base 1 (He.ga K "frac") ["num", "den"] [true, true] sp_frac := by
  obtain ⟨fd, F⟩ := T.c.def_ 0 (d := d_frac) rfl
  refine ⟨fd, def_ok F sc_frac rfl (fb := f_frac) (fun cdv A outer s H E hr => ?_) h_frac, F.bindsN fun _ _ _ _ _ _ us hl => match us, hl with | [_, _], _ => rfl, F.kp⟩
  apply Exists.intro
  exact (pbf_cons (psf_if (pq_eq (hr.units) (pf_var 1) pf_int) (pbf_one (psf_raise0 rfl (takes_of rfl rfl rfl rfl) PySem.F.excBase_ValueError T.e_BadFraction.1 T.g_BadFraction T.e_BadFraction.2.1 (raises_own T.e_BadFraction.2.2.1 T.e_BadFraction.2.2.2) rfl)) pbf_nil)
      (pbf_cons (psf_if (pq_lt (pf_var 1) pf_int) (pbf_cons (psf_set (i := 0) sc_frac.nd rfl (Or.inl rfl) (pf_neg (pf_var 0)))
      (pbf_one (psf_set (i := 1) sc_frac.nd rfl (Or.inl rfl) (pf_neg (pf_var 1))))) pbf_nil)
      (pbf_cons (psf_set (i := 2) sc_frac.nd rfl (Or.inl rfl) (pf_gcd rfl T.m_gcd (paf_cons (pf_var 0) (paf_cons (pf_var 1) paf_nil))))
      (pbf_one (psf_ret (pf_tup (paf_cons (pf_div (pf_var 0) (pf_var 2)) (paf_cons (pf_div (pf_var 1) (pf_var 2)) paf_nil))))))))
theorem ok_compare (T : Tx K mg) : Fok P w K mg base 1 (He.ga K "compare") ["x", "y"] [true, true] sp_compare := by
  obtain ⟨fd, F⟩ := T.c.def_ 5 (d := d_compare) rfl
  refine ⟨fd, def_ok F sc_compare rfl (fb := f_compare) (fun cdv A outer s H E hr => ?_) h_compare, F.bindsN fun _ _ _ _ _ _ us hl => match us, hl with | [_, _], _ => rfl, F.kp⟩
  apply Exists.intro
  exact (pbf_cons (psf_aft 2 (psf_set (i := 2) sc_compare.nd rfl (Or.inl rfl) (pf_mul (pf_ix (pf_var 0) pf_int) (pf_ix (pf_var 1) pf_int))))
      (pbf_cons (psf_aft 3 (psf_set (i := 3) sc_compare.nd rfl (Or.inl rfl) (pf_mul (pf_ix (pf_var 1) pf_int) (pf_ix (pf_var 0) pf_int))))
      (pbf_cons (psf_if (pq_lt (pf_var 2) (pf_var 3)) (pbf_one (psf_ret (pf_neg pf_int))) pbf_nil)
      (pbf_cons (psf_if (pq_gt (pf_var 2) (pf_var 3)) (pbf_one (psf_ret pf_int)) pbf_nil)
      (pbf_one (psf_ret pf_int))))))
theorem ok__law_is_integer (T : Tx K mg) : Fok P w K mg base 1 (He.ga K "_law_is_integer") ["actual"] [true] sp__law_is_integer := by
  obtain ⟨fd, F⟩ := T.c.def_ 7 (d := d__law_is_integer) rfl
  refine ⟨fd, def_ok F sc__law_is_integer rfl (fb := f__law_is_integer) (fun cdv A outer s H E hr => ?_) h__law_is_integer, F.bindsN fun _ _ _ _ _ _ us hl => match us, hl with | [_], _ => rfl, F.kp⟩
  apply Exists.intro
  exact (pbf_one (psf_ret (pf_and (pf_isT (T := "int") rfl T.z_isinstance rfl T.z_int (by decide +kernel) (pf_var 0)) (pf_one (pf_not (pf_isT (T := "bool") rfl T.z_isinstance rfl T.z_bool (by decide +kernel) (pf_var 0)))))))
theorem ok__law_cell (T : Tx K mg) : Fok P w K mg base 1 (He.ga K "_law_cell") ["script", "k"] [true, true] sp__law_cell := by
  obtain ⟨fd, F⟩ := T.c.def_ 8 (d := d__law_cell) rfl
  refine ⟨fd, def_ok F sc__law_cell rfl (fb := f__law_cell) (fun cdv A outer s H E hr => ?_) h__law_cell, F.bindsN fun _ _ _ _ _ _ us hl => match us, hl with | [_, _], _ => rfl, F.kp⟩
  apply Exists.intro
  exact (pbf_cons (psf_if (pq_lt (pf_var 1) (pf_len rfl T.z_len (paf_cons (pf_var 0) paf_nil))) (pbf_one (psf_ret (pf_int1 rfl T.z_int (paf_cons (pf_ix (pf_var 0) (pf_var 1)) paf_nil)))) pbf_nil)
      (pbf_one (psf_ret pf_int)))
theorem ok__law_numbers (T : Tx K mg) : Fok P w K mg base 1 (He.ga K "_law_numbers") ["cell", "many"] [true, true] sp__law_numbers := by
  obtain ⟨fd, F⟩ := T.c.def_ 9 (d := d__law_numbers) rfl
  refine ⟨fd, def_ok F sc__law_numbers rfl (fb := f__law_numbers) (fun cdv A outer s H E hr => ?_) h__law_numbers, F.bindsN fun _ _ _ _ _ _ us hl => match us, hl with | [_, _], _ => rfl, F.kp⟩
  apply Exists.intro
  exact (pbf_cons (psf_set (i := 2) sc__law_numbers.nd rfl (Or.inl rfl) (pf_abs rfl T.z_abs (paf_cons (pf_var 0) paf_nil)))
      (pbf_cons (psf_set (i := 3) sc__law_numbers.nd rfl (Or.inl rfl) (pf_mod (pf_int1 rfl T.z_int (paf_cons (pf_add (pf_mul (pf_var 2) pf_int) pf_int) paf_nil)) pf_int))
      (pbf_cons (psf_if (pq_lt (pf_var 2) (pf_pow pf_int pf_int)) (pbf_one (psf_set (i := 2) sc__law_numbers.nd rfl (Or.inl rfl) pf_int)) pbf_nil)
      (pbf_cons (psf_set (i := 4) sc__law_numbers.nd rfl (Or.inl rfl) (pf_lst paf_nil))
      (pbf_cons (psf_for (passes_of rfl) rfl (pif_r1 rfl T.z_range (pf_var 1)) (pgf_name (i := 5) sc__law_numbers.nd rfl (Or.inl rfl)) (pbf_one (psf_if (pq_gt (pf_var 2) pf_int) (pbf_cons (psf_app 4 (pf_var 4) (pf_mod (pf_int1 rfl T.z_int (paf_cons (pf_var 2) paf_nil)) pf_int))
      (pbf_one (psf_set (i := 2) sc__law_numbers.nd rfl (Or.inl rfl) (pf_div (pf_var 2) pf_int)))) (pbf_cons (psf_set (i := 3) sc__law_numbers.nd rfl (Or.inl rfl) (pf_mod (pf_int1 rfl T.z_int (paf_cons (pf_add (pf_mul (pf_var 3) pf_int) pf_int) paf_nil)) pf_int))
      (pbf_one (psf_app 4 (pf_var 4) (pf_mod (pf_int1 rfl T.z_int (paf_cons (pf_div (pf_var 3) pf_int) paf_nil)) pf_int)))))))
      (pbf_one (psf_retV 4 (pf_var 4))))))))
theorem ok__law_common (T : Tx K mg) : Fok P w K mg base 1 (He.ga K "_law_common") ["first", "second"] [true, true] sp__law_common := by
  obtain ⟨fd, F⟩ := T.c.def_ 11 (d := d__law_common) rfl
  refine ⟨fd, def_ok F sc__law_common rfl (fb := f__law_common) (fun cdv A outer s H E hr => ?_) h__law_common, F.bindsN fun _ _ _ _ _ _ us hl => match us, hl with | [_, _], _ => rfl, F.kp⟩
  apply Exists.intro
  exact (pbf_cons (psf_set (i := 2) sc__law_common.nd rfl (Or.inl rfl) (pf_abs rfl T.z_abs (paf_cons (pf_var 0) paf_nil)))
      (pbf_cons (psf_set (i := 3) sc__law_common.nd rfl (Or.inl rfl) (pf_abs rfl T.z_abs (paf_cons (pf_var 1) paf_nil)))
      (pbf_cons (psf_for (passes_of rfl) rfl (pif_r1 rfl T.z_range pf_int) (pgf_name (i := 4) sc__law_common.nd rfl (Or.inl rfl)) (pbf_cons (psf_if (pq_eq (hr.units) (pf_var 3) pf_int) (pbf_one (psf_retV 2 (pf_var 2))) pbf_nil)
      (pbf_cons (psf_set (i := 5) sc__law_common.nd rfl (Or.inl rfl) (pf_mod (pf_int1 rfl T.z_int (paf_cons (pf_var 2) paf_nil)) (pf_var 3)))
      (pbf_cons (psf_set (i := 2) sc__law_common.nd rfl (Or.inl rfl) (pf_var 3))
      (pbf_one (psf_set (i := 3) sc__law_common.nd rfl (Or.inl rfl) (pf_var 5)))))))
      (pbf_one (psf_retV 2 (pf_var 2))))))
theorem ok_add (T : Tx K mg) (G_frac : Fok P w K mg base 1 (He.ga K "frac") ["num", "den"] [true, true] sp_frac) : Fok P w K mg base 2 (He.ga K "add") ["x", "y"] [true, true] sp_add := by
  obtain ⟨fd, F⟩ := T.c.def_ 1 (d := d_add) rfl
  refine ⟨fd, def_ok F sc_add rfl (fb := f_add) (fun cdv A outer s H E hr => ?_) h_add, F.bindsN fun _ _ _ _ _ _ us hl => match us, hl with | [_, _], _ => rfl, F.kp⟩
  apply Exists.intro
  exact (pbf_one (psf_ret (pf_fn G_frac (hr.mono (by decide)) rfl T.g_frac (takes_of rfl rfl rfl rfl) (paf_cons (pf_add (pf_mul (pf_ix (pf_var 0) pf_int) (pf_ix (pf_var 1) pf_int)) (pf_mul (pf_ix (pf_var 1) pf_int) (pf_ix (pf_var 0) pf_int))) (paf_cons (pf_mul (pf_ix (pf_var 0) pf_int) (pf_ix (pf_var 1) pf_int)) paf_nil)))))
theorem ok_subtract (T : Tx K mg) (G_frac : Fok P w K mg base 1 (He.ga K "frac") ["num", "den"] [true, true] sp_frac) : Fok P w K mg base 2 (He.ga K "subtract") ["x", "y"] [true, true] sp_subtract := by
  obtain ⟨fd, F⟩ := T.c.def_ 2 (d := d_subtract) rfl
  refine ⟨fd, def_ok F sc_subtract rfl (fb := f_subtract) (fun cdv A outer s H E hr => ?_) h_subtract, F.bindsN fun _ _ _ _ _ _ us hl => match us, hl with | [_, _], _ => rfl, F.kp⟩
  apply Exists.intro
  exact (pbf_one (psf_ret (pf_fn G_frac (hr.mono (by decide)) rfl T.g_frac (takes_of rfl rfl rfl rfl) (paf_cons (pf_sub (pf_mul (pf_ix (pf_var 0) pf_int) (pf_ix (pf_var 1) pf_int)) (pf_mul (pf_ix (pf_var 1) pf_int) (pf_ix (pf_var 0) pf_int))) (paf_cons (pf_mul (pf_ix (pf_var 0) pf_int) (pf_ix (pf_var 1) pf_int)) paf_nil)))))
theorem ok_times (T : Tx K mg) (G_frac : Fok P w K mg base 1 (He.ga K "frac") ["num", "den"] [true, true] sp_frac) : Fok P w K mg base 2 (He.ga K "times") ["x", "y"] [true, true] sp_times := by
  obtain ⟨fd, F⟩ := T.c.def_ 3 (d := d_times) rfl
  refine ⟨fd, def_ok F sc_times rfl (fb := f_times) (fun cdv A outer s H E hr => ?_) h_times, F.bindsN fun _ _ _ _ _ _ us hl => match us, hl with | [_, _], _ => rfl, F.kp⟩
  apply Exists.intro
  exact (pbf_one (psf_ret (pf_fn G_frac (hr.mono (by decide)) rfl T.g_frac (takes_of rfl rfl rfl rfl) (paf_cons (pf_mul (pf_ix (pf_var 0) pf_int) (pf_ix (pf_var 1) pf_int)) (paf_cons (pf_mul (pf_ix (pf_var 0) pf_int) (pf_ix (pf_var 1) pf_int)) paf_nil)))))
theorem ok_divide (T : Tx K mg) (G_frac : Fok P w K mg base 1 (He.ga K "frac") ["num", "den"] [true, true] sp_frac) : Fok P w K mg base 2 (He.ga K "divide") ["x", "y"] [true, true] sp_divide := by
  obtain ⟨fd, F⟩ := T.c.def_ 4 (d := d_divide) rfl
  refine ⟨fd, def_ok F sc_divide rfl (fb := f_divide) (fun cdv A outer s H E hr => ?_) h_divide, F.bindsN fun _ _ _ _ _ _ us hl => match us, hl with | [_, _], _ => rfl, F.kp⟩
  apply Exists.intro
  exact (pbf_one (psf_ret (pf_fn G_frac (hr.mono (by decide)) rfl T.g_frac (takes_of rfl rfl rfl rfl) (paf_cons (pf_mul (pf_ix (pf_var 0) pf_int) (pf_ix (pf_var 1) pf_int)) (paf_cons (pf_mul (pf_ix (pf_var 0) pf_int) (pf_ix (pf_var 1) pf_int)) paf_nil)))))
theorem ok_greater (T : Tx K mg) (G_compare : Fok P w K mg base 1 (He.ga K "compare") ["x", "y"] [true, true] sp_compare) : Fok P w K mg base 2 (He.ga K "greater") ["x", "y"] [true, true] sp_greater := by
  obtain ⟨fd, F⟩ := T.c.def_ 6 (d := d_greater) rfl
  refine ⟨fd, def_ok F sc_greater rfl (fb := f_greater) (fun cdv A outer s H E hr => ?_) h_greater, F.bindsN fun _ _ _ _ _ _ us hl => match us, hl with | [_, _], _ => rfl, F.kp⟩
  apply Exists.intro
  exact (pbf_cons (psf_if (pq_lt (pf_fn G_compare (hr.mono (by decide)) rfl T.g_compare (takes_of rfl rfl rfl rfl) (paf_cons (pf_var 0) (paf_cons (pf_var 1) paf_nil))) pf_int) (pbf_one (psf_retV 1 (pf_var 1))) pbf_nil)
      (pbf_one (psf_retV 0 (pf_var 0))))
theorem ok__law_large (T : Tx K mg) (G__law_numbers : Fok P w K mg base 1 (He.ga K "_law_numbers") ["cell", "many"] [true, true] sp__law_numbers) : Fok P w K mg base 2 (He.ga K "_law_large") ["cell", "most"] [true, true] sp__law_large := by
  obtain ⟨fd, F⟩ := T.c.def_ 10 (d := d__law_large) rfl
  refine ⟨fd, def_ok F sc__law_large rfl (fb := f__law_large) (fun cdv A outer s H E hr => ?_) h__law_large, F.bindsN fun _ _ _ _ _ _ us hl => match us, hl with | [_, _], _ => rfl, F.kp⟩
  apply Exists.intro
  exact (pbf_cons (psf_set (i := 2) sc__law_large.nd rfl (Or.inl rfl) (pf_abs rfl T.z_abs (paf_cons (pf_var 0) paf_nil)))
      (pbf_cons (psf_if (pq_ge (pf_var 2) (pf_pow pf_int pf_int)) (pbf_one (psf_ret (pf_mod (pf_int1 rfl T.z_int (paf_cons (pf_var 2) paf_nil)) (pf_add (pf_var 1) pf_int)))) pbf_nil)
      (pbf_cons (psf_aft 3 (psf_set (i := 3) sc__law_large.nd rfl (Or.inl rfl) (pf_fn G__law_numbers (hr.mono (by decide)) rfl T.g__law_numbers (takes_of rfl rfl rfl rfl) (paf_cons (pf_var 0) (paf_cons pf_int paf_nil)))))
      (pbf_cons (psf_set (i := 4) sc__law_large.nd rfl (Or.inl rfl) pf_int)
      (pbf_cons (psf_for (passes_of rfl) rfl (pif_r1 rfl T.z_range (pf_mod (pf_int1 rfl T.z_int (paf_cons (pf_ix (pf_var 3) pf_int) paf_nil)) pf_int)) (pgf_name (i := 5) sc__law_large.nd rfl (Or.inl rfl)) (pbf_one (psf_set (i := 4) sc__law_large.nd rfl (Or.inl rfl) (pf_add (pf_mul (pf_var 4) pf_int) (pf_ix (pf_var 3) (pf_add (pf_var 5) pf_int))))))
      (pbf_one (psf_ret (pf_mod (pf_int1 rfl T.z_int (paf_cons (pf_var 4) paf_nil)) (pf_add (pf_var 1) pf_int)))))))))
theorem ok__law_lowest (T : Tx K mg) (G__law_common : Fok P w K mg base 1 (He.ga K "_law_common") ["first", "second"] [true, true] sp__law_common) : Fok P w K mg base 2 (He.ga K "_law_lowest") ["num", "den"] [true, true] sp__law_lowest := by
  obtain ⟨fd, F⟩ := T.c.def_ 12 (d := d__law_lowest) rfl
  refine ⟨fd, def_ok F sc__law_lowest rfl (fb := f__law_lowest) (fun cdv A outer s H E hr => ?_) h__law_lowest, F.bindsN fun _ _ _ _ _ _ us hl => match us, hl with | [_, _], _ => rfl, F.kp⟩
  apply Exists.intro
  exact (pbf_cons (psf_aft 2 (psf_set (i := 2) sc__law_lowest.nd rfl (Or.inl rfl) (pf_fn G__law_common (hr.mono (by decide)) rfl T.g__law_common (takes_of rfl rfl rfl rfl) (paf_cons (pf_var 0) (paf_cons (pf_var 1) paf_nil)))))
      (pbf_one (psf_ret (pf_tup (paf_cons (pf_div (pf_var 0) (pf_var 2)) (paf_cons (pf_div (pf_var 1) (pf_var 2)) paf_nil))))))
theorem ok__law_is_due (T : Tx K mg) (G__law_common : Fok P w K mg base 1 (He.ga K "_law_common") ["first", "second"] [true, true] sp__law_common) (G__law_is_integer : Fok P w K mg base 1 (He.ga K "_law_is_integer") ["actual"] [true] sp__law_is_integer) : Fok P w K mg base 2 (He.ga K "_law_is_due") ["told", "num", "den"] [true, true, true] sp__law_is_due := by
  obtain ⟨fd, F⟩ := T.c.def_ 13 (d := d__law_is_due) rfl
  refine ⟨fd, def_ok F sc__law_is_due rfl (fb := f__law_is_due) (fun cdv A outer s H E hr => ?_) h__law_is_due, F.bindsN fun _ _ _ _ _ _ us hl => match us, hl with | [_, _, _], _ => rfl, F.kp⟩
  apply Exists.intro
  exact (pbf_cons (psf_if (pq_w (pw_o (pq_not (pq_val (pf_isT (T := "tuple") rfl T.z_isinstance rfl T.z_tuple (by decide +kernel) (pf_var 0)))) (pw_o1 (pq_ne (hr.units) (pf_len rfl T.z_len (paf_cons (pf_var 0) paf_nil)) pf_int)))) (pbf_one (psf_ret pf_bl)) pbf_nil)
      (pbf_cons (psf_if (pq_w (pw_o (pq_not (pq_val (pf_fn G__law_is_integer (hr.mono (by decide)) rfl T.g__law_is_integer (takes_of rfl rfl rfl rfl) (paf_cons (pf_ix (pf_var 0) pf_int) paf_nil)))) (pw_o (pq_not (pq_val (pf_fn G__law_is_integer (hr.mono (by decide)) rfl T.g__law_is_integer (takes_of rfl rfl rfl rfl) (paf_cons (pf_ix (pf_var 0) pf_int) paf_nil)))) (pw_o1 (pq_lt (pf_ix (pf_var 0) pf_int) pf_int))))) (pbf_one (psf_ret pf_bl)) pbf_nil)
      (pbf_one (psf_ret (pf_and (pf_eq (hr.units) (pf_fn G__law_common (hr.mono (by decide)) rfl T.g__law_common (takes_of rfl rfl rfl rfl) (paf_cons (pf_ix (pf_var 0) pf_int) (paf_cons (pf_ix (pf_var 0) pf_int) paf_nil))) pf_int) (pf_one (pf_eq (hr.units) (pf_mul (pf_ix (pf_var 0) pf_int) (pf_var 2)) (pf_mul (pf_var 1) (pf_ix (pf_var 0) pf_int)))))))))
theorem ok__law_second (T : Tx K mg) (G__law_large : Fok P w K mg base 2 (He.ga K "_law_large") ["cell", "most"] [true, true] sp__law_large) (G__law_lowest : Fok P w K mg base 2 (He.ga K "_law_lowest") ["num", "den"] [true, true] sp__law_lowest) : Fok P w K mg base 3 (He.ga K "_law_second") ["x", "kind", "numbers", "first", "second"] [true, true, true, true, true] sp__law_second := by
  obtain ⟨fd, F⟩ := T.c.def_ 14 (d := d__law_second) rfl
  refine ⟨fd, def_ok F sc__law_second rfl (fb := f__law_second) (fun cdv A outer s H E hr => ?_) h__law_second, F.bindsN fun _ _ _ _ _ _ us hl => match us, hl with | [_, _, _, _, _], _ => rfl, F.kp⟩
  apply Exists.intro
  exact (pbf_cons (psf_set (i := 5) sc__law_second.nd rfl (Or.inl rfl) (pf_add pf_int (pf_mod (pf_int1 rfl T.z_int (paf_cons (pf_ix (pf_var 2) pf_int) paf_nil)) pf_int)))
      (pbf_cons (psf_if (pq_eq (hr.units) (pf_var 1) pf_int) (pbf_one (psf_retV 0 (pf_var 0))) pbf_nil)
      (pbf_cons (psf_if (pq_eq (hr.units) (pf_var 1) pf_int) (pbf_one (psf_ret (pf_tup (paf_cons (pf_sub pf_int (pf_ix (pf_var 0) pf_int)) (paf_cons (pf_ix (pf_var 0) pf_int) paf_nil))))) pbf_nil)
      (pbf_cons (psf_if (pq_eq (hr.units) (pf_var 1) pf_int) (pbf_one (psf_ret (pf_fn G__law_lowest (hr.mono (by decide)) rfl T.g__law_lowest (takes_of rfl rfl rfl rfl) (paf_cons (pf_add (pf_ix (pf_var 0) pf_int) (pf_var 5)) (paf_cons (pf_ix (pf_var 0) pf_int) paf_nil))))) pbf_nil)
      (pbf_cons (psf_if (pq_eq (hr.units) (pf_var 1) pf_int) (pbf_one (psf_ret (pf_fn G__law_lowest (hr.mono (by decide)) rfl T.g__law_lowest (takes_of rfl rfl rfl rfl) (paf_cons (pf_ix (pf_var 0) pf_int) (paf_cons (pf_add (pf_ix (pf_var 0) pf_int) (pf_var 5)) paf_nil))))) pbf_nil)
      (pbf_cons (psf_if (pq_eq (hr.units) (pf_var 1) pf_int) (pbf_one (psf_ret (pf_fn G__law_lowest (hr.mono (by decide)) rfl T.g__law_lowest (takes_of rfl rfl rfl rfl) (paf_cons (pf_add (pf_mul (pf_div (pf_ix (pf_var 0) pf_int) (pf_ix (pf_var 0) pf_int)) (pf_var 5)) (pf_mod (pf_int1 rfl T.z_int (paf_cons (pf_ix (pf_var 2) pf_int) paf_nil)) (pf_var 5))) (paf_cons (pf_var 5) paf_nil))))) pbf_nil)
      (pbf_cons (psf_aft 6 (psf_set (i := 6) sc__law_second.nd rfl (Or.inl rfl) (pf_fn G__law_large (hr.mono (by decide)) rfl T.g__law_large (takes_of rfl rfl rfl rfl) (paf_cons (pf_var 3) (paf_cons (pf_mul pf_int (pf_pow pf_int pf_int)) paf_nil)))))
      (pbf_cons (psf_if (pq_eq (hr.units) (pf_var 1) pf_int) (pbf_one (psf_set (i := 6) sc__law_second.nd rfl (Or.inl rfl) pf_int)) pbf_nil)
      (pbf_cons (psf_if (pq_eq (hr.units) (pf_mod (pf_int1 rfl T.z_int (paf_cons (pf_ix (pf_var 2) pf_int) paf_nil)) pf_int) pf_int) (pbf_one (psf_set (i := 6) sc__law_second.nd rfl (Or.inl rfl) (pf_sub pf_int (pf_var 6)))) pbf_nil)
      (pbf_one (psf_ret (pf_fn G__law_lowest (hr.mono (by decide)) rfl T.g__law_lowest (takes_of rfl rfl rfl rfl) (paf_cons (pf_var 6) (paf_cons (pf_add pf_int (pf_fn G__law_large (hr.mono (by decide)) rfl T.g__law_large (takes_of rfl rfl rfl rfl) (paf_cons (pf_var 4) (paf_cons (pf_sub (pf_mul pf_int (pf_pow pf_int pf_int)) pf_int) paf_nil)))) paf_nil))))))))))))))
theorem ok__law_refused (T : Tx K mg) (G_frac : Fok P w K mg base 1 (He.ga K "frac") ["num", "den"] [true, true] sp_frac) (G_divide : Fok P w K mg base 2 (He.ga K "divide") ["x", "y"] [true, true] sp_divide) : Fok P w K mg base 3 (He.ga K "_law_refused") ["which", "x", "y"] [true, true, true] sp__law_refused := by
  obtain ⟨fd, F⟩ := T.c.def_ 15 (d := d__law_refused) rfl
  refine ⟨fd, def_ok F sc__law_refused rfl (fb := f__law_refused) (fun cdv A outer s H E hr => ?_) h__law_refused, F.bindsN fun _ _ _ _ _ _ us hl => match us, hl with | [_, _, _], _ => rfl, F.kp⟩
  apply Exists.intro
  exact (pbf_cons (psf_try rfl rfl (takes_of rfl rfl rfl rfl) (fun W0 pn0 xe0 tk0 po0 => ⟨_, (pbf_one (psf_if (pq_eq (hr.units) (pf_var 0) pf_int) (pbf_one (psf_expr (pf_fn G_frac (hr.mono (by decide)) rfl T.g_frac tk0 (paf_cons (pf_var 1) (paf_cons (pf_var 2) paf_nil))))) (pbf_one (psf_expr (pf_fn G_divide (hr.mono (by decide)) rfl T.g_divide tk0 (paf_cons (pf_var 1) (paf_cons (pf_var 2) paf_nil)))))))⟩) (hd_as (i := 3) T.tab sc__law_refused.nd rfl rfl (names_of rfl T.g_BadFraction) (fun a pn => ⟨_, (pbf_one (psf_ret (pf_and (pf_isO (C := "WorseError") T.tab rfl T.z_isinstance rfl T.g_WorseError (pf_var 3)) (pf_and (pf_isB (T := "ValueError") T.tab rfl T.z_isinstance rfl T.z_ValueError (by decide +kernel) (pf_var 3)) (pf_one (pf_not (pf_isO (C := "BadRatio") T.tab rfl T.z_isinstance rfl T.g_BadRatio (pf_var 3))))))))⟩) (hd_only T.tab (names_of rfl T.g_WorseError) (fun a pn => ⟨_, (pbf_one (psf_ret pf_bl))⟩) hd_nil)))
      (pbf_one (psf_ret pf_bl)))
theorem ok__law_pair_is_told (T : Tx K mg) (G_greater : Fok P w K mg base 2 (He.ga K "greater") ["x", "y"] [true, true] sp_greater) (G__law_is_due : Fok P w K mg base 2 (He.ga K "_law_is_due") ["told", "num", "den"] [true, true, true] sp__law_is_due) (G__law_is_integer : Fok P w K mg base 1 (He.ga K "_law_is_integer") ["actual"] [true] sp__law_is_integer) (G_compare : Fok P w K mg base 1 (He.ga K "compare") ["x", "y"] [true, true] sp_compare) (G__law_refused : Fok P w K mg base 3 (He.ga K "_law_refused") ["which", "x", "y"] [true, true, true] sp__law_refused) (G_divide : Fok P w K mg base 2 (He.ga K "divide") ["x", "y"] [true, true] sp_divide) (G_times : Fok P w K mg base 2 (He.ga K "times") ["x", "y"] [true, true] sp_times) (G_add : Fok P w K mg base 2 (He.ga K "add") ["x", "y"] [true, true] sp_add) (G_subtract : Fok P w K mg base 2 (He.ga K "subtract") ["x", "y"] [true, true] sp_subtract) : Fok P w K mg base 4 (He.ga K "_law_pair_is_told") ["x", "y"] [true, true] sp__law_pair_is_told := by
  obtain ⟨fd, F⟩ := T.c.def_ 16 (d := d__law_pair_is_told) rfl
  refine ⟨fd, def_ok F sc__law_pair_is_told rfl (fb := f__law_pair_is_told) (fun cdv A outer s H E hr => ?_) h__law_pair_is_told, F.bindsN fun _ _ _ _ _ _ us hl => match us, hl with | [_, _], _ => rfl, F.kp⟩
  apply Exists.intro
  exact (pbf_cons (psf_aft 2 (psf_set (i := 2) sc__law_pair_is_told.nd rfl (Or.inl rfl) (pf_mul (pf_ix (pf_var 0) pf_int) (pf_ix (pf_var 1) pf_int))))
      (pbf_cons (psf_aft 3 (psf_set (i := 3) sc__law_pair_is_told.nd rfl (Or.inl rfl) (pf_mul (pf_ix (pf_var 1) pf_int) (pf_ix (pf_var 0) pf_int))))
      (pbf_cons (psf_aft 4 (psf_set (i := 4) sc__law_pair_is_told.nd rfl (Or.inl rfl) (pf_mul (pf_ix (pf_var 0) pf_int) (pf_ix (pf_var 1) pf_int))))
      (pbf_cons (psf_if (pq_w (pw_o (pq_not (pq_val (pf_fn G__law_is_due (hr.mono (by decide)) rfl T.g__law_is_due (takes_of rfl rfl rfl rfl) (paf_cons (pf_fn G_add (hr.mono (by decide)) rfl T.g_add (takes_of rfl rfl rfl rfl) (paf_cons (pf_var 0) (paf_cons (pf_var 1) paf_nil))) (paf_cons (pf_add (pf_var 2) (pf_var 3)) (paf_cons (pf_var 4) paf_nil)))))) (pw_o1 (pq_not (pq_val (pf_fn G__law_is_due (hr.mono (by decide)) rfl T.g__law_is_due (takes_of rfl rfl rfl rfl) (paf_cons (pf_fn G_subtract (hr.mono (by decide)) rfl T.g_subtract (takes_of rfl rfl rfl rfl) (paf_cons (pf_var 0) (paf_cons (pf_var 1) paf_nil))) (paf_cons (pf_sub (pf_var 2) (pf_var 3)) (paf_cons (pf_var 4) paf_nil))))))))) (pbf_one (psf_ret pf_bl)) pbf_nil)
      (pbf_cons (psf_if (pq_not (pq_val (pf_fn G__law_is_due (hr.mono (by decide)) rfl T.g__law_is_due (takes_of rfl rfl rfl rfl) (paf_cons (pf_fn G_times (hr.mono (by decide)) rfl T.g_times (takes_of rfl rfl rfl rfl) (paf_cons (pf_var 0) (paf_cons (pf_var 1) paf_nil))) (paf_cons (pf_mul (pf_ix (pf_var 0) pf_int) (pf_ix (pf_var 1) pf_int)) (paf_cons (pf_var 4) paf_nil)))))) (pbf_one (psf_ret pf_bl)) pbf_nil)
      (pbf_cons (psf_if (pq_eq (hr.units) (pf_ix (pf_var 1) pf_int) pf_int) (pbf_one (psf_if (pq_not (pq_val (pf_fn G__law_refused (hr.mono (by decide)) rfl T.g__law_refused (takes_of rfl rfl rfl rfl) (paf_cons pf_int (paf_cons (pf_var 0) (paf_cons (pf_var 1) paf_nil)))))) (pbf_one (psf_ret pf_bl)) pbf_nil)) (pbf_one (psf_if (pq_not (pq_val (pf_fn G__law_is_due (hr.mono (by decide)) rfl T.g__law_is_due (takes_of rfl rfl rfl rfl) (paf_cons (pf_fn G_divide (hr.mono (by decide)) rfl T.g_divide (takes_of rfl rfl rfl rfl) (paf_cons (pf_var 0) (paf_cons (pf_var 1) paf_nil))) (paf_cons (pf_var 2) (paf_cons (pf_var 3) paf_nil)))))) (pbf_one (psf_ret pf_bl)) pbf_nil)))
      (pbf_cons (psf_set (i := 5) sc__law_pair_is_told.nd rfl (Or.inl rfl) (pf_sub (pf_int1 rfl T.z_int (paf_cons (pf_gt (pf_var 2) (pf_var 3)) paf_nil)) (pf_int1 rfl T.z_int (paf_cons (pf_lt (pf_var 2) (pf_var 3)) paf_nil))))
      (pbf_cons (psf_aft 6 (psf_set (i := 6) sc__law_pair_is_told.nd rfl (Or.inl rfl) (pf_fn G_compare (hr.mono (by decide)) rfl T.g_compare (takes_of rfl rfl rfl rfl) (paf_cons (pf_var 0) (paf_cons (pf_var 1) paf_nil)))))
      (pbf_cons (psf_if (pq_w (pw_o (pq_not (pq_val (pf_fn G__law_is_integer (hr.mono (by decide)) rfl T.g__law_is_integer (takes_of rfl rfl rfl rfl) (paf_cons (pf_var 6) paf_nil)))) (pw_o1 (pq_ne (hr.units) (pf_var 6) (pf_var 5))))) (pbf_one (psf_ret pf_bl)) pbf_nil)
      (pbf_cons (psf_aft 7 (psf_set (i := 7) sc__law_pair_is_told.nd rfl (Or.inl rfl) (pf_if (pq_lt (pf_var 5) pf_int) (pf_var 1) (pf_var 0))))
      (pbf_one (psf_ret (pf_fn G__law_is_due (hr.mono (by decide)) rfl T.g__law_is_due (takes_of rfl rfl rfl rfl) (paf_cons (pf_fn G_greater (hr.mono (by decide)) rfl T.g_greater (takes_of rfl rfl rfl rfl) (paf_cons (pf_var 0) (paf_cons (pf_var 1) paf_nil))) (paf_cons (pf_ix (pf_var 7) pf_int) (paf_cons (pf_ix (pf_var 7) pf_int) paf_nil))))))))))))))))
theorem ok__law_frac_is_told (T : Tx K mg) (G__law_refused : Fok P w K mg base 3 (He.ga K "_law_refused") ["which", "x", "y"] [true, true, true] sp__law_refused) (G_frac : Fok P w K mg base 1 (He.ga K "frac") ["num", "den"] [true, true] sp_frac) (G__law_is_due : Fok P w K mg base 2 (He.ga K "_law_is_due") ["told", "num", "den"] [true, true, true] sp__law_is_due) : Fok P w K mg base 4 (He.ga K "_law_frac_is_told") ["num", "den"] [true, true] sp__law_frac_is_told := by
  obtain ⟨fd, F⟩ := T.c.def_ 17 (d := d__law_frac_is_told) rfl
  refine ⟨fd, def_ok F sc__law_frac_is_told rfl (fb := f__law_frac_is_told) (fun cdv A outer s H E hr => ?_) h__law_frac_is_told, F.bindsN fun _ _ _ _ _ _ us hl => match us, hl with | [_, _], _ => rfl, F.kp⟩
  apply Exists.intro
  exact (pbf_cons (psf_for (passes_of rfl) rfl (pif_seq (pf_lst (paf_cons (pf_var 0) (paf_cons (pf_sub pf_int (pf_var 0)) paf_nil)))) (pgf_name (i := 2) sc__law_frac_is_told.nd rfl (Or.inl rfl)) (pbf_cons (psf_for (passes_of rfl) rfl (pif_seq (pf_lst (paf_cons (pf_var 1) (paf_cons (pf_sub pf_int (pf_var 1)) paf_nil)))) (pgf_name (i := 3) sc__law_frac_is_told.nd rfl (Or.inl rfl)) (pbf_cons (psf_if (pq_not (pq_val (pf_fn G__law_is_due (hr.mono (by decide)) rfl T.g__law_is_due (takes_of rfl rfl rfl rfl) (paf_cons (pf_fn G_frac (hr.mono (by decide)) rfl T.g_frac (takes_of rfl rfl rfl rfl) (paf_cons (pf_var 2) (paf_cons (pf_var 3) paf_nil))) (paf_cons (pf_var 2) (paf_cons (pf_var 3) paf_nil)))))) (pbf_one (psf_ret pf_bl)) pbf_nil)
      (pbf_one (psf_if (pq_w (pw_a (pq_ne (hr.units) (pf_var 2) pf_int) (pw_a1 (pq_not (pq_val (pf_fn G__law_is_due (hr.mono (by decide)) rfl T.g__law_is_due (takes_of rfl rfl rfl rfl) (paf_cons (pf_fn G_frac (hr.mono (by decide)) rfl T.g_frac (takes_of rfl rfl rfl rfl) (paf_cons (pf_var 3) (paf_cons (pf_var 2) paf_nil))) (paf_cons (pf_var 3) (paf_cons (pf_var 2) paf_nil))))))))) (pbf_one (psf_ret pf_bl)) pbf_nil))))
      (pbf_one (psf_if (pq_not (pq_val (pf_fn G__law_refused (hr.mono (by decide)) rfl T.g__law_refused (takes_of rfl rfl rfl rfl) (paf_cons pf_int (paf_cons (pf_var 2) (paf_cons pf_int paf_nil)))))) (pbf_one (psf_ret pf_bl)) pbf_nil))))
      (pbf_one (psf_ret (pf_fn G__law_refused (hr.mono (by decide)) rfl T.g__law_refused (takes_of rfl rfl rfl rfl) (paf_cons pf_int (paf_cons pf_int (paf_cons pf_int paf_nil)))))))
theorem ok_law (T : Tx K mg) (G_frac : Fok P w K mg base 1 (He.ga K "frac") ["num", "den"] [true, true] sp_frac) (G__law_is_due : Fok P w K mg base 2 (He.ga K "_law_is_due") ["told", "num", "den"] [true, true, true] sp__law_is_due) (G_add : Fok P w K mg base 2 (He.ga K "add") ["x", "y"] [true, true] sp_add) (G__law_frac_is_told : Fok P w K mg base 4 (He.ga K "_law_frac_is_told") ["num", "den"] [true, true] sp__law_frac_is_told) (G__law_cell : Fok P w K mg base 1 (He.ga K "_law_cell") ["script", "k"] [true, true] sp__law_cell) (G__law_large : Fok P w K mg base 2 (He.ga K "_law_large") ["cell", "most"] [true, true] sp__law_large) (G__law_refused : Fok P w K mg base 3 (He.ga K "_law_refused") ["which", "x", "y"] [true, true, true] sp__law_refused) (G__law_pair_is_told : Fok P w K mg base 4 (He.ga K "_law_pair_is_told") ["x", "y"] [true, true] sp__law_pair_is_told) (G__law_second : Fok P w K mg base 3 (He.ga K "_law_second") ["x", "kind", "numbers", "first", "second"] [true, true, true, true, true] sp__law_second) (G__law_lowest : Fok P w K mg base 2 (He.ga K "_law_lowest") ["num", "den"] [true, true] sp__law_lowest) (G__law_numbers : Fok P w K mg base 1 (He.ga K "_law_numbers") ["cell", "many"] [true, true] sp__law_numbers) {fd : FuncData} (F : FunD K "law" "law" (defArgs s_law) (defBody s_law) (defScope s_law) [] [] (He.ga K "law") fd) : FnOk P w K mg base (L2.CX P w) 5 (He.ga K "law") fd ["script"] (Prom K [true] sp_law) := by
  refine def_ok F sc_law rfl (fb := f_law) (fun cdv A outer s H E hr => ?_) h_law
  apply Exists.intro
  exact (pbf_cons (psf_aft 1 (psf_set (i := 1) sc_law.nd rfl (Or.inl rfl) (pf_fn G__law_numbers (hr.mono (by decide)) rfl T.g__law_numbers (takes_of rfl rfl rfl rfl) (paf_cons (pf_fn G__law_cell (hr.mono (by decide)) rfl T.g__law_cell (takes_of rfl rfl rfl rfl) (paf_cons (pf_var 0) (paf_cons pf_int paf_nil))) (paf_cons pf_int paf_nil)))))
      (pbf_cons (psf_aft 2 (psf_set (i := 2) sc_law.nd rfl (Or.inl rfl) (pf_fn G__law_large (hr.mono (by decide)) rfl T.g__law_large (takes_of rfl rfl rfl rfl) (paf_cons (pf_fn G__law_cell (hr.mono (by decide)) rfl T.g__law_cell (takes_of rfl rfl rfl rfl) (paf_cons (pf_var 0) (paf_cons pf_int paf_nil))) (paf_cons (pf_mul pf_int (pf_pow pf_int pf_int)) paf_nil)))))
      (pbf_cons (psf_set (i := 3) sc_law.nd rfl (Or.inl rfl) (pf_add pf_int (pf_fn G__law_large (hr.mono (by decide)) rfl T.g__law_large (takes_of rfl rfl rfl rfl) (paf_cons (pf_fn G__law_cell (hr.mono (by decide)) rfl T.g__law_cell (takes_of rfl rfl rfl rfl) (paf_cons (pf_var 0) (paf_cons pf_int paf_nil))) (paf_cons (pf_sub (pf_mul pf_int (pf_pow pf_int pf_int)) pf_int) paf_nil)))))
      (pbf_cons (psf_if (pq_eq (hr.units) (pf_mod (pf_ix (pf_var 1) pf_int) pf_int) pf_int) (pbf_one (psf_set (i := 2) sc_law.nd rfl (Or.inl rfl) pf_int)) pbf_nil)
      (pbf_cons (psf_if (pq_eq (hr.units) (pf_mod (pf_ix (pf_var 1) pf_int) pf_int) pf_int) (pbf_one (psf_set (i := 3) sc_law.nd rfl (Or.inl rfl) pf_int)) pbf_nil)
      (pbf_cons (psf_if (pq_eq (hr.units) (pf_mod (pf_ix (pf_var 1) pf_int) pf_int) pf_int) (pbf_one (psf_set (i := 2) sc_law.nd rfl (Or.inl rfl) (pf_sub pf_int (pf_var 2)))) pbf_nil)
      (pbf_cons (psf_aft 4 (psf_set (i := 4) sc_law.nd rfl (Or.inl rfl) (pf_fn G__law_lowest (hr.mono (by decide)) rfl T.g__law_lowest (takes_of rfl rfl rfl rfl) (paf_cons (pf_var 2) (paf_cons (pf_var 3) paf_nil)))))
      (pbf_cons (psf_aft 5 (psf_set (i := 5) sc_law.nd rfl (Or.inl rfl) (pf_fn G__law_second (hr.mono (by decide)) rfl T.g__law_second (takes_of rfl rfl rfl rfl) (paf_cons (pf_var 4) (paf_cons (pf_mod (pf_ix (pf_var 1) pf_int) pf_int) (paf_cons (pf_slice (pf_var 1) (pof_some pf_int) pof_none) (paf_cons (pf_fn G__law_cell (hr.mono (by decide)) rfl T.g__law_cell (takes_of rfl rfl rfl rfl) (paf_cons (pf_var 0) (paf_cons pf_int paf_nil))) (paf_cons (pf_fn G__law_cell (hr.mono (by decide)) rfl T.g__law_cell (takes_of rfl rfl rfl rfl) (paf_cons (pf_var 0) (paf_cons pf_int paf_nil))) paf_nil))))))))
      (pbf_cons (psf_if (pq_w (pw_o (pq_not (pq_val (pf_fn G__law_pair_is_told (hr.mono (by decide)) rfl T.g__law_pair_is_told (takes_of rfl rfl rfl rfl) (paf_cons (pf_var 4) (paf_cons (pf_var 5) paf_nil))))) (pw_o1 (pq_not (pq_val (pf_fn G__law_pair_is_told (hr.mono (by decide)) rfl T.g__law_pair_is_told (takes_of rfl rfl rfl rfl) (paf_cons (pf_var 5) (paf_cons (pf_var 4) paf_nil)))))))) (pbf_one (psf_ret pf_bl)) pbf_nil)
      (pbf_cons (psf_if (pq_w (pw_o (pq_not (pq_val (pf_fn G__law_refused (hr.mono (by decide)) rfl T.g__law_refused (takes_of rfl rfl rfl rfl) (paf_cons pf_int (paf_cons (pf_var 4) (paf_cons (pf_tup (paf_cons pf_int (paf_cons pf_int paf_nil))) paf_nil)))))) (pw_o1 (pq_not (pq_val (pf_fn G__law_refused (hr.mono (by decide)) rfl T.g__law_refused (takes_of rfl rfl rfl rfl) (paf_cons pf_int (paf_cons (pf_tup (paf_cons pf_int (paf_cons pf_int paf_nil))) (paf_cons (pf_tup (paf_cons pf_int (paf_cons pf_int paf_nil))) paf_nil))))))))) (pbf_one (psf_ret pf_bl)) pbf_nil)
      (pbf_cons (psf_aft 6 (psf_set (i := 6) sc_law.nd rfl (Or.inl rfl) (pf_fn G__law_large (hr.mono (by decide)) rfl T.g__law_large (takes_of rfl rfl rfl rfl) (paf_cons (pf_fn G__law_cell (hr.mono (by decide)) rfl T.g__law_cell (takes_of rfl rfl rfl rfl) (paf_cons (pf_var 0) (paf_cons pf_int paf_nil))) (paf_cons (pf_sub (pf_pow pf_int pf_int) pf_int) paf_nil)))))
      (pbf_cons (psf_set (i := 7) sc_law.nd rfl (Or.inl rfl) (pf_add pf_int (pf_fn G__law_large (hr.mono (by decide)) rfl T.g__law_large (takes_of rfl rfl rfl rfl) (paf_cons (pf_fn G__law_cell (hr.mono (by decide)) rfl T.g__law_cell (takes_of rfl rfl rfl rfl) (paf_cons (pf_var 0) (paf_cons pf_int paf_nil))) (paf_cons (pf_sub (pf_pow pf_int pf_int) pf_int) paf_nil)))))
      (pbf_cons (psf_set (i := 8) sc_law.nd rfl (Or.inl rfl) (pf_add pf_int (pf_fn G__law_large (hr.mono (by decide)) rfl T.g__law_large (takes_of rfl rfl rfl rfl) (paf_cons (pf_fn G__law_cell (hr.mono (by decide)) rfl T.g__law_cell (takes_of rfl rfl rfl rfl) (paf_cons (pf_var 0) (paf_cons pf_int paf_nil))) (paf_cons (pf_sub (pf_pow pf_int pf_int) pf_int) paf_nil)))))
      (pbf_cons (psf_if (pq_eq (hr.units) (pf_mod (pf_ix (pf_var 1) pf_int) pf_int) pf_int) (pbf_one (psf_set (i := 8) sc_law.nd rfl (Or.inl rfl) pf_int)) pbf_nil)
      (pbf_cons (psf_if (pq_eq (hr.units) (pf_mod (pf_ix (pf_var 1) pf_int) pf_int) pf_int) (pbf_one (psf_set (i := 6) sc_law.nd rfl (Or.inl rfl) pf_int)) pbf_nil)
      (pbf_cons (psf_if (pq_not (pq_val (pf_fn G__law_frac_is_told (hr.mono (by decide)) rfl T.g__law_frac_is_told (takes_of rfl rfl rfl rfl) (paf_cons (pf_mul (pf_var 6) (pf_var 8)) (paf_cons (pf_mul (pf_var 7) (pf_var 8)) paf_nil))))) (pbf_one (psf_ret pf_bl)) pbf_nil)
      (pbf_one (psf_ret (pf_and (pf_fn G__law_is_due (hr.mono (by decide)) rfl T.g__law_is_due (takes_of rfl rfl rfl rfl) (paf_cons (pf_fn G_frac (hr.mono (by decide)) rfl T.g_frac (takes_of rfl rfl rfl rfl) (paf_cons (pf_ix (pf_var 4) pf_int) (paf_cons (pf_ix (pf_var 4) pf_int) paf_nil))) (paf_cons (pf_ix (pf_var 4) pf_int) (paf_cons (pf_ix (pf_var 4) pf_int) paf_nil)))) (pf_one (pf_fn G__law_is_due (hr.mono (by decide)) rfl T.g__law_is_due (takes_of rfl rfl rfl rfl) (paf_cons (pf_fn G_add (hr.mono (by decide)) rfl T.g_add (takes_of rfl rfl rfl rfl) (paf_cons (pf_var 4) (paf_cons (pf_tup (paf_cons pf_int (paf_cons pf_int paf_nil))) paf_nil))) (paf_cons (pf_ix (pf_var 4) pf_int) (paf_cons (pf_ix (pf_var 4) pf_int) paf_nil))))))))))))))))))))))))
end
end K0
set_option Elab.async false
set_option linter.all false
set_option maxRecDepth 100000
set_option maxHeartbeats 4000000
namespace K0
open PySem PySem.Spec PyProof.Rows L2 NW
theorem law_all {P : Program} {w : World} {K : PySem.W.Frag} {mg : Str → Option Value} {base : Heap} (T : Tx K mg) {fd : FuncData} (F : FunD K "law" "law" (defArgs s_law) (defBody s_law) (defScope s_law) [] [] (He.ga K "law") fd) : FnOk P w K mg base (L2.CX P w) 5 (He.ga K "law") fd ["script"] (Prom K [true] sp_law) := by
  have G_frac := ok_frac (P := P) (w := w) (base := base) T
  have G_compare := ok_compare (P := P) (w := w) (base := base) T
  have G__law_is_integer := ok__law_is_integer (P := P) (w := w) (base := base) T
  have G__law_cell := ok__law_cell (P := P) (w := w) (base := base) T
  have G__law_numbers := ok__law_numbers (P := P) (w := w) (base := base) T
  have G__law_common := ok__law_common (P := P) (w := w) (base := base) T
  have G_add := ok_add (P := P) (w := w) (base := base) T G_frac
  have G_subtract := ok_subtract (P := P) (w := w) (base := base) T G_frac
  have G_times := ok_times (P := P) (w := w) (base := base) T G_frac
  have G_divide := ok_divide (P := P) (w := w) (base := base) T G_frac
  have G_greater := ok_greater (P := P) (w := w) (base := base) T G_compare
  have G__law_large := ok__law_large (P := P) (w := w) (base := base) T G__law_numbers
  have G__law_lowest := ok__law_lowest (P := P) (w := w) (base := base) T G__law_common
  have G__law_is_due := ok__law_is_due (P := P) (w := w) (base := base) T G__law_common G__law_is_integer
  have G__law_second := ok__law_second (P := P) (w := w) (base := base) T G__law_large G__law_lowest
  have G__law_refused := ok__law_refused (P := P) (w := w) (base := base) T G_frac G_divide
  have G__law_pair_is_told := ok__law_pair_is_told (P := P) (w := w) (base := base) T G_greater G__law_is_due G__law_is_integer G_compare G__law_refused G_divide G_times G_add G_subtract
  have G__law_frac_is_told := ok__law_frac_is_told (P := P) (w := w) (base := base) T G__law_refused G_frac G__law_is_due
  exact ok_law T G_frac G__law_is_due G_add G__law_frac_is_told G__law_cell G__law_large G__law_refused G__law_pair_is_told G__law_second G__law_lowest G__law_numbers F
abbrev R : PySem.W.OpenRow := PySem.W.OpenLaw.row PySem.Challenge.rw_neverworsethan_k00_fractions_by_cross_pr
abbrev hk : PySem.W.Hook := He.hookX 5 fa fn [] [] exB
def ob (s : PySem.W.SharedT) : He.AlX := He.obsX 5 fa fn [] [] exB (HandSHeadRun.getT s)
theorem ob_eq (s : PySem.W.SharedT) : ob s = hk.obs s.abs := He.obsX_eq (HandSHeadRun.getT_eq s)
def loose0 : List Str := ["WorseError", "BadFraction", "BadRatio", "frac", "add", "subtract", "times", "divide", "compare", "greater", "_law_is_integer", "_law_cell", "_law_numbers", "_law_large", "_law_common", "_law_lowest", "_law_is_due", "_law_second", "_law_refused", "_law_pair_is_told", "_law_frac_is_told"]
def loose : List Str := loose0
theorem run (w : World) : HandSHeadRun.RunEqI R (PySem.W.view R.prog [0, 25]) hk ob 4000 loose w := by
  unfold HandSHeadRun.RunEqI
  kernel_rfl
theorem facts {P : Program} {w : World} {K : PySem.W.Frag} {h : Heap} {mg : Str → Option Value} {f : Addr} (X : K.In h) (G : h.Ns mainGlobals mg) (hfa : mg ("law" : Str) = some (.ref f)) (c : He.SaysX fa fn [] [] exB w h K) :
    ∃ fd : FuncData, (∀ (s : Shared) (v : Value), BindsTo s fd ⟨[v], []⟩ [("script", v)]) ∧ ∀ base : Heap, FnOk P w K mg base L2.CX0 5 f fd ["script"] (fun vs H Q _ => Prom K [true] sp_law vs H Q E00) := by
  have T := tx X G c
  obtain ⟨fd, F⟩ := T.c.def_ 18 (d := d_law) rfl
  have e := hfa.symm.trans T.g_law
  cases e
  have b := FunD.bindsA (ps := ["script"]) F fun _ _ _ _ _ _ us hl => match us, hl with | [_], _ => rfl
  exact ⟨fd, fun s v => b s [v] rfl, fun base => calm0 (law_all T F)⟩
end K0
open PySem PySem.W PySem.Calls PyProof.Rows
theorem PySem.Challenge.cw_neverworsethan_k00_fractions_by_cross_pr_holds : PySem.Challenge.rw_neverworsethan_k00_fractions_by_cross_pr.Holds := by
  w_on; o_law
  refine HandSHeadRun.head_imp (r := OpenLaw.row PySem.Challenge.rw_neverworsethan_k00_fractions_by_cross_pr) (q := view (OpenLaw.row PySem.Challenge.rw_neverworsethan_k00_fractions_by_cross_pr).prog [0, 25]) (H := K0.hk) (ob := K0.ob) (M := 4000) (loose := K0.loose) (d := HandSHeadRun.topDef (OpenLaw.row PySem.Challenge.rw_neverworsethan_k00_fractions_by_cross_pr).prog 25) (kwd := [])
    K0.ob_eq K0.run (by kernel_rfl) (by kernel_rfl) (by kernel_rfl)
    (by rfl) (by first | assumption | decide +kernel) (by decide +kernel) ⟨rfl, rfl, rfl, rfl, rfl, by decide +kernel⟩ ?hw ?hc
  case hw => w_witness2
  case hc =>
    refine L2.walk_ofE (l := PySem.Challenge.rw_neverworsethan_k00_fractions_by_cross_pr) (n := 63) (k := 5) (x := "script") (CX := L2.CX0) rfl (by decide) (by kernel_rfl) ⟨rfl, by decide, by decide⟩ ?F (fun _ _ _ _ z => z)
    intro w mg fa h Y G hmg0
    obtain ⟨K, KX, c⟩ := Y
    have hmg : mg ("law" : PySem.Str) = some (.ref fa) := by
      have e : (HandSHeadRun.topDef (OpenLaw.row PySem.Challenge.rw_neverworsethan_k00_fractions_by_cross_pr).prog 25).name = ("law" : PySem.Str) := by kernel_rfl
      rw [← e]
      exact hmg0
    obtain ⟨fd, hb, hF⟩ := K0.facts (P := (PySem.Challenge.rw_neverworsethan_k00_fractions_by_cross_pr).prog) (w := w) KX G hmg c
    exact ⟨K, fd, fun vs H Q _ => NW.Prom K [true] K0.sp_law vs H Q NW.E00, KX, hb, fun H a ns hl _ hS => NW.law_sp (K0.law_true hl) hS, fun base _ _ => hF base⟩
