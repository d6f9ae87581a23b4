import PyProof.Rows.All
import Wide.All
import OpenK.AllK
import Wide.FinOn
import HandS.ForMost
import HandS.Exc
import HandS.Conv
import HandS.Style
import HandS.Deep
import HandS.Wide
import HandS.IsInst
import HandS.TupAny
import HandS.SortInts
import HandS.Steps
import KE.GoesEnum
import PySem.Challenge.RW_arrowtiers_k41_whole_sheets_told
set_option Elab.async false
set_option linter.all false
set_option maxRecDepth 100000
set_option maxHeartbeats 4000000

/-! Data over the hand layer: what stands in slots and heap as plain data (Dt), the part of the heap that nobody changes (F), and readings by data. -/
namespace Dl
open PySem L2

/-! ### data -/
inductive Dt where
  | non | bl (b : Bool) | int (i : Int) | str (x : Str) | lst (xs : List Dt) | tup (xs : List Dt) | obj (C : Addr) (fs : List (Str × Dt)) | scr (K : PySem.W.Frag) (ns : List Int)

mutual
inductive Dv (F : Hp) : V → Dt → Prop
  | non : Dv F .non .non
  | bl (b : Bool) : Dv F (.bl b) (.bl b)
  | int (i : Int) : Dv F (.int i) (.int i)
  | str (x : Str) : Dv F (.str x) (.str x)
  | lst {a : Addr} {xs : List V} {ds : List Dt} : F a = some (.lst xs) → Dvs F xs ds → Dv F (.ref a) (.lst ds)
  | tup {a : Addr} {xs : List V} {ds : List Dt} : F a = some (.tup xs) → Dvs F xs ds → Dv F (.ref a) (.tup ds)
  | obj {a C dx : Addr} {fs : List (Str × V)} {ds : List (Str × Dt)} : F a = some (.ins C dx fs) → Dfs F fs ds → Dv F (.ref a) (.obj C ds)
  /-- the script: a list of ints that may be read -/
  | scr {K : PySem.W.Frag} {a : Addr} {ns : List Int} : SqL K F a (ns.map V.int) → Dv F (.ref a) (.scr K ns)
inductive Dvs (F : Hp) : List V → List Dt → Prop
  | nil : Dvs F [] []
  | cons {v : V} {vs : List V} {d : Dt} {ds : List Dt} : Dv F v d → Dvs F vs ds → Dvs F (v :: vs) (d :: ds)
inductive Dfs (F : Hp) : List (Str × V) → List (Str × Dt) → Prop
  | nil : Dfs F [] []
  | cons {n : Str} {v : V} {fs : List (Str × V)} {d : Dt} {ds : List (Str × Dt)} : Dv F v d → Dfs F fs ds → Dfs F ((n, v) :: fs) ((n, d) :: ds)
end

section
variable {F G : Hp}
mutual
theorem Dv.mono (e : Same F G) : ∀ {v : V} {d : Dt}, Dv F v d → Dv G v d
  | _, _, .non => .non
  | _, _, .bl b => .bl b
  | _, _, .int i => .int i
  | _, _, .str x => .str x
  | _, _, .lst h hs => .lst (e _ _ h) (Dvs.mono e hs)
  | _, _, .tup h hs => .tup (e _ _ h) (Dvs.mono e hs)
  | _, _, .obj h hs => .obj (e _ _ h) (Dfs.mono e hs)
  | _, _, .scr h => .scr (e.seq h)
theorem Dvs.mono (e : Same F G) : ∀ {vs : List V} {ds : List Dt}, Dvs F vs ds → Dvs G vs ds
  | _, _, .nil => .nil
  | _, _, .cons h hs => .cons (Dv.mono e h) (Dvs.mono e hs)
theorem Dfs.mono (e : Same F G) : ∀ {vs : List (Str × V)} {ds : List (Str × Dt)}, Dfs F vs ds → Dfs G vs ds
  | _, _, .nil => .nil
  | _, _, .cons h hs => .cons (Dv.mono e h) (Dfs.mono e hs)
end
theorem Dvs.length : ∀ {vs : List V} {ds : List Dt}, Dvs F vs ds → vs.length = ds.length
  | _, _, .nil => rfl
  | _, _, .cons _ t => congrArg (· + 1) t.length
theorem Dvs.get : ∀ {vs : List V} {ds : List Dt} {i : Nat} {d : Dt}, Dvs F vs ds → ds[i]? = some d → ∃ v, vs[i]? = some v ∧ Dv F v d
  | _, _, _, _, .nil, e => by simp at e
  | _, _, 0, _, .cons r _, e => by simp at e; subst e; exact ⟨_, rfl, r⟩
  | _, _, i + 1, d, .cons _ t, e => by
    obtain ⟨u, h1, h2⟩ := Dvs.get (i := i) (d := d) t (by simpa using e)
    exact ⟨u, by simpa using h1, h2⟩
theorem Dvs.app : ∀ {xs ys : List V} {us ws : List Dt}, Dvs F xs us → Dvs F ys ws → Dvs F (xs ++ ys) (us ++ ws)
  | _, _, _, _, .nil, s => s
  | _, _, _, _, .cons r t, s => .cons r (Dvs.app t s)
theorem Dvs.one {v : V} {d : Dt} (h : Dv F v d) : Dvs F [v] [d] := .cons h .nil
theorem Dvs.set {x : V} {u : Dt} (r : Dv F x u) : ∀ {xs : List V} {us : List Dt} (i : Nat), Dvs F xs us → Dvs F (xs.set i x) (us.set i u)
  | _, _, _, .nil => .nil
  | _, _, 0, .cons _ t => .cons r t
  | _, _, i + 1, .cons q t => .cons q (Dvs.set r i t)
theorem Dvs.take : ∀ {xs : List V} {us : List Dt} (n : Nat), Dvs F xs us → Dvs F (xs.take n) (us.take n)
  | _, _, 0, _ => .nil
  | _, _, _ + 1, .nil => .nil
  | _, _, n + 1, .cons r t => .cons r (Dvs.take n t)
theorem Dvs.drop : ∀ {xs : List V} {us : List Dt} (n : Nat), Dvs F xs us → Dvs F (xs.drop n) (us.drop n)
  | _, _, 0, r => r
  | _, _, _ + 1, .nil => .nil
  | _, _, n + 1, .cons _ t => Dvs.drop n t
theorem Dvs.rev : ∀ {xs : List V} {us : List Dt}, Dvs F xs us → Dvs F xs.reverse us.reverse
  | _, _, .nil => .nil
  | _, _, .cons r t => by
    rw [List.reverse_cons, List.reverse_cons]
    exact (Dvs.rev t).app (.one r)
theorem Dvs.rep {v : V} {d : Dt} (h : Dv F v d) : ∀ n : Nat, Dvs F (List.replicate n v) (List.replicate n d)
  | 0 => .nil
  | n + 1 => .cons h (Dvs.rep h n)
theorem Dvs.of {f : Int → V} {g : Int → Dt} (h : ∀ i, Dv F (f i) (g i)) : ∀ ns : List Int, Dvs F (ns.map f) (ns.map g)
  | [] => .nil
  | n :: ns => .cons (h n) (Dvs.of h ns)
theorem Dvs.ints : ∀ {vs : List V} {ns : List Int}, Dvs F vs (ns.map Dt.int) → vs = ns.map V.int
  | [], [], _ => rfl
  | [], _ :: _, h => nomatch h
  | _ :: _, [], h => nomatch h
  | _ :: _, _ :: _, .cons (.int _) t => by rw [Dvs.ints t]; rfl
theorem Dvs.strs : ∀ {vs : List V} {ns : List Str}, Dvs F vs (ns.map Dt.str) → vs = ns.map V.str
  | [], [], _ => rfl
  | [], _ :: _, h => nomatch h
  | _ :: _, [], h => nomatch h
  | _ :: _, _ :: _, .cons (.str _) t => by rw [Dvs.strs t]; rfl
theorem Dvs.bls : ∀ {vs : List V} {ns : List Bool}, Dvs F vs (ns.map Dt.bl) → vs = ns.map V.bl
  | [], [], _ => rfl
  | [], _ :: _, h => nomatch h
  | _ :: _, [], h => nomatch h
  | _ :: _, _ :: _, .cons (.bl _) t => by rw [Dvs.bls t]; rfl
theorem Dfs.get : ∀ {fs : List (Str × V)} {ds : List (Str × Dt)} {f : Str} {d : Dt}, Dfs F fs ds → ds.lookup f = some d → ∃ v, fs.lookup f = some v ∧ Dv F v d
  | _, _, _, _, .nil, e => by simp at e
  | (n, v) :: fs, _, f, d, .cons (d := d0) r t, e => by
    rw [List.lookup_cons] at e ⊢
    cases q : f == n with
    | true =>
      rw [q] at e
      simp only [Option.some.injEq] at e
      subst e
      exact ⟨v, rfl, r⟩
    | false =>
      rw [q] at e
      exact Dfs.get t e
theorem Dfs.no : ∀ {fs : List (Str × V)} {ds : List (Str × Dt)} {f : Str}, Dfs F fs ds → ds.lookup f = none → fs.lookup f = none
  | _, _, _, .nil, _ => rfl
  | (n, v) :: fs, _, f, .cons r t, e => by
    rw [List.lookup_cons] at e ⊢
    cases q : f == n with
    | true =>
      rw [q] at e
      cases e
    | false =>
      rw [q] at e
      exact Dfs.no t e
end

/-- no address in it -/
def Dt.flat : Dt → Bool
  | .non => true
  | .bl _ => true
  | .int _ => true
  | .str _ => true
  | _ => false
theorem Dv.flat {F G : Hp} {v : V} {d : Dt} (h : Dv F v d) (f : d.flat = true) : Dv G v d := by
  cases h with
  | non => exact .non
  | bl b => exact .bl b
  | int i => exact .int i
  | str x => exact .str x
  | lst _ _ => cases f
  | tup _ _ => cases f
  | obj _ _ => cases f
  | scr _ => cases f
theorem Dvs.flat {F G : Hp} : ∀ {vs : List V} {ds : List Dt}, Dvs F vs ds → ds.all Dt.flat = true → Dvs G vs ds
  | _, _, .nil, _ => .nil
  | _, _, .cons h t, f => by
    rw [List.all_cons, Bool.and_eq_true] at f
    exact .cons (h.flat f.1) (t.flat f.2)

/-! ### as the library's data, for == and in -/
mutual
def Dt.py : Dt → PyData
  | .non => .none
  | .bl b => .bool b
  | .int i => .int i
  | .str x => .str x
  | .lst xs => .list (Dt.pys xs)
  | .tup xs => .tuple (Dt.pys xs)
  | .obj _ _ => .none
  | .scr _ _ => .none
def Dt.pys : List Dt → List PyData
  | [] => []
  | x :: xs => x.py :: Dt.pys xs
end
mutual
def Dt.pure : Dt → Bool
  | .non => true
  | .bl _ => true
  | .int _ => true
  | .str _ => true
  | .lst xs => Dt.pures xs
  | .tup xs => Dt.pures xs
  | .obj _ _ => false
  | .scr _ _ => false
def Dt.pures : List Dt → Bool
  | [] => true
  | x :: xs => x.pure && Dt.pures xs
end
mutual
theorem Dv.dp {K : PySem.W.Frag} {F : Hp} : ∀ {v : V} {d : Dt}, Dv F v d → d.pure = true → Dp K F v d.py
  | _, _, .non, _ => .non
  | _, _, .bl b, _ => .bl b
  | _, _, .int i, _ => .int i
  | _, _, .str x, _ => .str x
  | _, _, .lst h hs, p => .lst (.inl (.inl h)) (Dvs.dp hs p)
  | _, _, .tup h hs, p => .tup (.inl (.inl h)) (Dvs.dp hs p)
  | _, _, .obj _ _, p => nomatch p
  | _, _, .scr _, p => nomatch p
theorem Dvs.dp {K : PySem.W.Frag} {F : Hp} : ∀ {vs : List V} {ds : List Dt}, Dvs F vs ds → Dt.pures ds = true → DpAll K F vs (Dt.pys ds)
  | _, _, .nil, _ => .nil
  | _, _, .cons h hs, p => by
    have p' := (Bool.and_eq_true _ _).mp p
    exact .cons (Dv.dp h p'.1) (Dvs.dp hs p'.2)
end
/-- a typed view of data: the library's == upon it is equality -/
structure Enc {α : Type} [DecidableEq α] (f : α → Dt) (n : Nat) : Prop where
  pu : ∀ x, (f x).pure = true
  dep : ∀ x, (f x).py.depth ≤ n
  eq : ∀ x y, PyData.eqv (f x).py (f y).py = decide (x = y)
def L {α : Type} (f : α → Dt) (xs : List α) : Dt := .lst (xs.map f)
def T2 {α β : Type} (f : α → Dt) (g : β → Dt) (p : α × β) : Dt := .tup [f p.1, g p.2]
def O (o : Option Int) : Dt := match o with
  | none => .non
  | some i => .int i
/-- a list, or a tuple -/
def S (k : Bool) {α : Type} (f : α → Dt) (xs : List α) : Dt := if k = true then .tup (xs.map f) else .lst (xs.map f)
section
variable {α β : Type} [DecidableEq α] [DecidableEq β] {f : α → Dt} {g : β → Dt} {n m : Nat}
theorem enc_int : Enc Dt.int 0 := ⟨fun _ => rfl, fun _ => by simp [Dt.py, PyData.depth], fun x y => by
  show (x == y) = decide (x = y)
  rfl⟩
theorem enc_O : Enc O 0 := ⟨fun x => by cases x <;> rfl, fun x => by cases x <;> simp [O, Dt.py, PyData.depth], fun x y => by
  cases x with
  | none =>
    cases y with
    | none => rfl
    | some j => rfl
  | some i =>
    cases y with
    | none => rfl
    | some j =>
      show (i == j) = decide (some i = some j)
      by_cases e : i = j
      · subst e; simp
      · rw [decide_eq_false (fun q => e (Option.some.inj q))]
        exact beq_eq_false_iff_ne.mpr e⟩
theorem pures_map (h : ∀ x, (f x).pure = true) : ∀ xs : List α, Dt.pures (xs.map f) = true
  | [] => rfl
  | x :: xs => by
    show ((f x).pure && Dt.pures (xs.map f)) = true
    rw [h x, pures_map h xs]; rfl
theorem depth_map (h : ∀ x, (f x).py.depth ≤ n) : ∀ xs : List α, PyData.depthAll (Dt.pys (xs.map f)) ≤ n
  | [] => by simp [Dt.pys, PyData.depthAll]
  | x :: xs => by
    have h1 := h x
    have h2 := depth_map h xs
    simp only [List.map_cons, Dt.pys, PyData.depthAll]
    omega
theorem eqv_map (h : ∀ x y, PyData.eqv (f x).py (f y).py = decide (x = y)) : ∀ xs ys : List α, PyData.eqvAll (Dt.pys (xs.map f)) (Dt.pys (ys.map f)) = decide (xs = ys)
  | [], [] => by simp [Dt.pys, PyData.eqvAll]
  | [], _ :: _ => by simp [Dt.pys, PyData.eqvAll]
  | _ :: _, [] => by simp [Dt.pys, PyData.eqvAll]
  | x :: xs, y :: ys => by
    simp only [List.map_cons, Dt.pys, PyData.eqvAll, h x y, eqv_map h xs ys]
    by_cases e : x = y
    · subst e; simp
    · simp [e]
theorem enc_L (h : Enc f n) : Enc (L f) (n + 1) := ⟨fun xs => pures_map h.pu xs, fun xs => by
  have q := depth_map h.dep xs
  simp only [L, Dt.py, PyData.depth]
  omega, fun xs ys => by
  show PyData.eqvAll (Dt.pys (xs.map f)) (Dt.pys (ys.map f)) = decide (xs = ys)
  exact eqv_map h.eq xs ys⟩
theorem enc_T2 (h : Enc f n) (h' : Enc g m) : Enc (T2 f g) (max n m + 1) := ⟨fun p => by
  show ((f p.1).pure && ((g p.2).pure && true)) = true
  rw [h.pu, h'.pu]; rfl, fun p => by
  have q := h.dep p.1
  have q' := h'.dep p.2
  simp only [T2, Dt.py, Dt.pys, PyData.depth, PyData.depthAll]
  omega, fun p q => by
  show (PyData.eqv (f p.1).py (f q.1).py && (PyData.eqv (g p.2).py (g q.2).py && true)) = decide (p = q)
  rw [h.eq, h'.eq]
  obtain ⟨a, b⟩ := p
  obtain ⟨c, d⟩ := q
  by_cases e : a = c
  · subst e
    by_cases e' : b = d
    · subst e'; simp
    · simp [e']
  · simp [e]⟩
end
end Dl

namespace Dl
open PySem L2

theorem same_new {H : Hp} {p : Addr} {o : HO} (h : H p = none) : Same H (upd H p o) := fun b x e => by
  rw [upd_ne (ne_of_none e h)]
  exact e
/-- from the state (F, H) to (F', H'): F what nobody changes any more, H all; what stood apart stands apart -/
structure Gr (F H F' H' : Hp) : Prop where
  ff : Same F F'
  fh : Same F' H'
  hh : Same H H'
  ap : ∀ b o, H b = some o → F b = none → F' b = none
section
variable {F H F1 H1 F2 H2 : Hp} {p : Addr} {o : HO}
theorem Gr.refl (e : Same F H) : Gr F H F H := ⟨Same.refl F, e, Same.refl H, fun _ _ _ h => h⟩
theorem Gr.trans (a : Gr F H F1 H1) (b : Gr F1 H1 F2 H2) : Gr F H F2 H2 :=
  ⟨a.ff.trans b.ff, b.fh, a.hh.trans b.hh, fun c x h n => b.ap c x (a.hh c x h) (a.ap c x h n)⟩
/-- a new object, F's -/
theorem Gr.new (e : Same F H) (h : H p = none) : Gr F H (upd F p o) (upd H p o) :=
  ⟨same_new (e.free h), fun b x q => by
    by_cases z : b = p
    · subst z; rw [upd_same] at q; rw [upd_same]; exact q
    · rw [upd_ne z] at q; rw [upd_ne z]; exact e b x q, same_new h, fun b x q n => by rw [upd_ne (ne_of_none q h)]; exact n⟩
/-- a new object that may change still -/
theorem Gr.own (e : Same F H) (h : H p = none) : Gr F H F (upd H p o) := ⟨Same.refl F, e.trans (same_new h), same_new h, fun _ _ _ n => n⟩
/-- a young object becomes F's -/
theorem Gr.freeze (g : Gr F H F1 H1) (h : H p = none) (h1 : F1 p = none) (e : H1 p = some o) : Gr F H (upd F1 p o) H1 :=
  ⟨g.ff.trans (same_new h1), fun b x q => by
    by_cases z : b = p
    · subst z; rw [upd_same] at q; rw [← q]; exact e
    · rw [upd_ne z] at q; exact g.fh b x q, g.hh, fun b x q n => by rw [upd_ne (ne_of_none q h)]; exact g.ap b x q n⟩
/-- all of H may count as F's for a while -/
theorem Gr.all (e : Same F H) (g : Gr H H F1 H1) : Gr F H F H1 := ⟨Same.refl F, e.trans g.hh, g.hh, fun _ _ _ n => n⟩
/-- an object that H does not know may change -/
theorem Gr.mut (g : Gr F H F1 H1) (h : H p = none) (h1 : F1 p = none) : Gr F H F1 (upd H1 p o) :=
  ⟨g.ff, fun b x q => by rw [upd_ne (ne_of_none q h1)]; exact g.fh b x q, fun b x q => by rw [upd_ne (ne_of_none q h)]; exact g.hh b x q, g.ap⟩
end

/-- the slots' data; none: not known -/
abbrev En := List (Option Dt)
/-- what is one's own: an assertion over (the heap ahead, F, the slots, the heap) -/
structure Ow where
  P : Hp → Hp → St → Hp → Prop
  sl : List Nat
  grow : ∀ {H0 F : Hp} {σ : St} {H F' H' : Hp}, P H0 F σ H → Gr F H F' H' → P H0 F' σ H'
  slot : ∀ {H0 F : Hp} {σ σ' : St} {H : Hp}, P H0 F σ H → (∀ j ∈ sl, σ'[j]? = σ[j]?) → P H0 F σ' H
def noO : Ow := ⟨fun _ _ _ _ => True, [], fun h _ => h, fun h _ => h⟩
/-- the list in slot i, which nobody else knows -/
def ol (i : Nat) (ds : List Dt) : Ow where
  P := fun H0 F σ H => ∃ (a : Addr) (xs : List V), σ[i]? = some (some (.ref a)) ∧ H0 a = none ∧ F a = none ∧ H a = some (.lst xs) ∧ Dvs F xs ds
  sl := [i]
  grow := fun ⟨a, xs, e, n0, nf, h, d⟩ g => ⟨a, xs, e, n0, g.ap a _ h nf, g.hh a _ h, d.mono g.ff⟩
  slot := fun ⟨a, xs, e, r⟩ k => ⟨a, xs, (k i (List.mem_singleton.mpr rfl)).trans e, r⟩

def EnOk (F : Hp) (σ : St) (en : En) : Prop := ∀ (i : Nat) (d : Dt), en[i]? = some (some d) → ∃ v, σ[i]? = some (some v) ∧ Dv F v d
structure Ok (F0 H0 : Hp) (o : Ow) (en : En) (F : Hp) (σ : St) (H : Hp) : Prop where
  gr : Gr F0 H0 F H
  env : EnOk F σ en
  len : σ.length = en.length
  own : o.P H0 F σ H
section
variable {F0 H0 F H F1 H1 : Hp} {o : Ow} {en : En} {σ : St}
theorem Ok.fh (k : Ok F0 H0 o en F σ H) : Same F H := k.gr.fh
theorem Ok.grow (k : Ok F0 H0 o en F σ H) (g : Gr F H F1 H1) : Ok F0 H0 o en F1 σ H1 :=
  ⟨k.gr.trans g, fun i d e => let ⟨v, h, r⟩ := k.env i d e; ⟨v, h, r.mono g.ff⟩, k.len, o.grow k.own g⟩
theorem getD_set {α : Type} {l : List α} {i j : Nat} {x : α} : (l.set i x)[j]? = if i = j then (if i < l.length then some x else none) else l[j]? := by
  rw [List.getElem?_set]
theorem Ok.set {i : Nat} {v : V} {d : Dt} (k : Ok F0 H0 o en F σ H) (hi : i ∉ o.sl) (r : Dv F v d) : Ok F0 H0 o (en.set i (some d)) F (σ.set i (some v)) H :=
  ⟨k.gr, fun j e q => by
    by_cases z : i = j
    · subst z
      by_cases l : i < en.length
      · rw [List.getElem?_set_self l] at q
        cases q
        exact ⟨v, List.getElem?_set_self (by rw [k.len]; exact l), r⟩
      · rw [List.getElem?_set, if_pos rfl, if_neg l] at q
        cases q
    · rw [List.getElem?_set_ne z] at q
      obtain ⟨u, h, s⟩ := k.env j e q
      exact ⟨u, by rw [List.getElem?_set_ne z]; exact h, s⟩, by rw [List.length_set, List.length_set]; exact k.len,
    o.slot k.own fun j hj => List.getElem?_set_ne fun z => hi (by rw [z]; exact hj)⟩
/-- a slot whose data nobody knows -/
theorem Ok.setNone {i : Nat} {v : V} (k : Ok F0 H0 o en F σ H) (hi : i ∉ o.sl) : Ok F0 H0 o (en.set i none) F (σ.set i (some v)) H :=
  ⟨k.gr, fun j e q => by
    by_cases z : i = j
    · subst z
      by_cases l : i < en.length
      · rw [List.getElem?_set_self l] at q
        cases q
      · rw [List.getElem?_set, if_pos rfl, if_neg l] at q
        cases q
    · rw [List.getElem?_set_ne z] at q
      obtain ⟨u, h, s⟩ := k.env j e q
      exact ⟨u, by rw [List.getElem?_set_ne z]; exact h, s⟩, by rw [List.length_set, List.length_set]; exact k.len,
    o.slot k.own fun j hj => List.getElem?_set_ne fun z => hi (by rw [z]; exact hj)⟩
/-- what is known may be forgotten -/
inductive LeE : En → En → Prop
  | nil : LeE [] []
  | keep {d : Dt} {l r : En} : LeE l r → LeE (some d :: l) (some d :: r)
  | drop {x : Option Dt} {l r : En} : LeE l r → LeE (none :: l) (x :: r)
theorem LeE.length {l r : En} (h : LeE l r) : l.length = r.length := by
  induction h with
  | nil => rfl
  | keep _ ih => exact congrArg (· + 1) ih
  | drop _ ih => exact congrArg (· + 1) ih
theorem LeE.get {l r : En} (h : LeE l r) : ∀ {i : Nat} {d : Dt}, l[i]? = some (some d) → r[i]? = some (some d) := by
  induction h with
  | nil => intro i d e; exact e
  | keep _ ih =>
    intro i d e
    cases i with
    | zero => exact e
    | succ i => exact ih (i := i) (d := d) e
  | drop _ ih =>
    intro i d e
    cases i with
    | zero => cases e
    | succ i => exact ih (i := i) (d := d) e
theorem LeE.refl : ∀ l : En, LeE l l
  | [] => .nil
  | none :: l => .drop (LeE.refl l)
  | some _ :: l => .keep (LeE.refl l)
theorem Ok.weak {en' : En} (k : Ok F0 H0 o en F σ H) (h : LeE en' en) : Ok F0 H0 o en' F σ H :=
  ⟨k.gr, fun i d e => k.env i d (h.get e), k.len.trans h.length.symm, k.own⟩
end

/-! ### an expression's data -/
/-- te evaluates to d; its objects F's -/
def Ev (te : TE) (o : Ow) (en : En) (d : Dt) : Prop := ∀ (F0 H0 F : Hp) (σ : St) (H : Hp), Ok F0 H0 o en F σ H → ∀ Q : VK, (∀ v F' H', Gr F H F' H' → Dv F' v d → Q v H') → te σ H Q
/-- .. to be read alone -/
def EvB (te : TE) (o : Ow) (en : En) (d : Dt) : Prop := ∀ (F0 H0 F : Hp) (σ : St) (H : Hp), Ok F0 H0 o en F σ H → ∀ Q : VK, (∀ v F' H', Gr F H F' H' → Dv H' v d → Q v H') → te σ H Q
/-- a new list -/
def EvN (te : TE) (o : Ow) (en : En) (ds : List Dt) : Prop := ∀ (F0 H0 F : Hp) (σ : St) (H : Hp), Ok F0 H0 o en F σ H → ∀ Q : VK,
  (∀ p xs F' H', Gr F H F' H' → H p = none → F' p = none → H' p = some (.lst xs) → Dvs F' xs ds → Q (.ref p) H') → te σ H Q
def EvT (tt : TT) (o : Ow) (en : En) (b : Bool) : Prop := ∀ (F0 H0 F : Hp) (σ : St) (H : Hp), Ok F0 H0 o en F σ H → ∀ Q : Bool → Hp → Prop, (∀ F' H', Gr F H F' H' → Q b H') → tt σ H Q
def EvA (ta : TA) (o : Ow) (en : En) (ds : List Dt) : Prop := ∀ (F0 H0 F : Hp) (σ : St) (H : Hp), Ok F0 H0 o en F σ H → ∀ Q : List V → Hp → Prop, (∀ vs F' H', Gr F H F' H' → Dvs F' vs ds → Q vs H') → ta σ H Q
def EvAB (ta : TA) (o : Ow) (en : En) (ds : List Dt) : Prop := ∀ (F0 H0 F : Hp) (σ : St) (H : Hp), Ok F0 H0 o en F σ H → ∀ Q : List V → Hp → Prop, (∀ vs F' H', Gr F H F' H' → Dvs H' vs ds → Q vs H') → ta σ H Q
def EvO (to : TO) (o : Ow) (en : En) (i : Option Int) : Prop := ∀ (F0 H0 F : Hp) (σ : St) (H : Hp), Ok F0 H0 o en F σ H → ∀ Q : Option Int → Hp → Prop, (∀ F' H', Gr F H F' H' → Q i H') → to σ H Q
section
variable {K : PySem.W.Frag} {o : Ow} {en : En} {te ta tb tc : TE} {d x y z : Dt} {ds es : List Dt} {tt tu : TT} {i : Nat} {t : TA}
theorem Ev.b (h : Ev te o en d) : EvB te o en d := fun _ _ _ _ _ k Q q => h _ _ _ _ _ k Q fun v F' H' g r => q v F' H' g (r.mono g.fh)
theorem EvB.e (h : EvB te o en d) (f : d.flat = true) : Ev te o en d := fun _ _ _ _ _ k Q q => h _ _ _ _ _ k Q fun v F' H' g r => q v F' H' g (r.flat f)
theorem EvN.e (h : EvN te o en ds) : Ev te o en (.lst ds) := fun _ _ _ _ _ k Q q => h _ _ _ _ _ k Q fun p xs F' H' g n0 nf e r => by
  refine q _ (upd F' p (.lst xs)) H' (g.freeze n0 nf e) (.lst upd_same (r.mono (same_new nf)))
theorem Ev.to (h : Ev te o en d) (e : d = x) : Ev te o en x := e ▸ h
theorem EvB.to (h : EvB te o en d) (e : d = x) : EvB te o en x := e ▸ h
theorem EvN.to (h : EvN te o en ds) (e : ds = es) : EvN te o en es := e ▸ h
theorem EvT.to {a b : Bool} (h : EvT tt o en a) (e : a = b) : EvT tt o en b := e ▸ h
theorem ev_var (h : en[i]? = some (some d)) : Ev (tVar i) o en d := fun _ _ _ _ _ k Q q => by
  obtain ⟨v, e, r⟩ := k.env i d h
  exact ⟨v, e, q v _ _ (.refl k.fh) r⟩
theorem evb_own : EvB (tVar i) (ol i ds) en (.lst ds) := fun _ _ _ _ _ k Q q => by
  obtain ⟨a, xs, e, _, _, h, r⟩ := k.own
  exact ⟨.ref a, e, q _ _ _ (.refl k.fh) (.lst h (r.mono k.fh))⟩
theorem ev_int {n : Int} : Ev (tC (.int n)) o en (.int n) := fun _ _ _ _ _ k Q q => q _ _ _ (.refl k.fh) (.int n)
theorem ev_str {n : Str} : Ev (tC (.str n)) o en (.str n) := fun _ _ _ _ _ k Q q => q _ _ _ (.refl k.fh) (.str n)
theorem ev_bl {n : Bool} : Ev (tC (.bl n)) o en (.bl n) := fun _ _ _ _ _ k Q q => q _ _ _ (.refl k.fh) (.bl n)
theorem ev_non : Ev (tC .non) o en .non := fun _ _ _ _ _ k Q q => q _ _ _ (.refl k.fh) .non

/-- two operands read, a flat answer -/
theorem ev_op2 {r : R2} (ha : EvB ta o en x) (hb : EvB tb o en y) (f : z.flat = true) (hr : ∀ {H : Hp} {v w : V} (Q : VK), Dv H v x → Dv H w y → (∀ u, Dv H u z → Q u H) → r v w H Q) : Ev (tOp r ta tb) o en z := fun _ _ _ _ _ k Q q => by
  refine ha _ _ _ _ _ k _ fun v F1 H1 g1 r1 => ?_
  refine hb _ _ _ _ _ (k.grow g1) _ fun w F2 H2 g2 r2 => ?_
  exact hr Q (r1.mono g2.hh) r2 fun u ru => q u F2 H2 (g1.trans g2) (ru.flat f)

/-! ### arguments -/
theorem ea_nil : EvA tNil o en [] := fun _ _ _ _ _ k Q q => q _ _ _ (.refl k.fh) .nil
theorem ea_cons (ha : Ev ta o en d) (ht : EvA t o en ds) : EvA (tCons ta t) o en (d :: ds) := fun _ _ _ _ _ k Q q => by
  refine ha _ _ _ _ _ k _ fun v F1 H1 g1 r1 => ?_
  refine ht _ _ _ _ _ (k.grow g1) _ fun vs F2 H2 g2 r2 => ?_
  exact q _ _ _ (g1.trans g2) (.cons (r1.mono g2.ff) r2)
theorem eb_nil : EvAB tNil o en [] := fun _ _ _ _ _ k Q q => q _ _ _ (.refl k.fh) .nil
theorem eb_cons (ha : EvB ta o en d) (ht : EvAB t o en ds) : EvAB (tCons ta t) o en (d :: ds) := fun _ _ _ _ _ k Q q => by
  refine ha _ _ _ _ _ k _ fun v F1 H1 g1 r1 => ?_
  refine ht _ _ _ _ _ (k.grow g1) _ fun vs F2 H2 g2 r2 => ?_
  exact q _ _ _ (g1.trans g2) (.cons (r1.mono g2.hh) r2)

/-! ### displays -/
theorem ev_tup (h : EvA t o en ds) (hl : Nat.ble ds.length 1000 = true := by rfl) : Ev (tTup t) o en (.tup ds) := fun _ _ _ _ _ k Q q => by
  refine h _ _ _ _ _ k _ fun vs F1 H1 g1 r1 => ?_
  refine ⟨Nat.le_of_lt (small1000 (by rw [r1.length]; exact Nat.le_of_ble_eq_true hl)), fun p hp => ?_⟩
  exact q _ _ _ (g1.trans (Gr.new g1.fh hp)) (.tup upd_same (r1.mono (same_new (g1.fh.free hp))))
theorem ev_lst (h : EvA t o en ds) (hl : Nat.ble ds.length 1000 = true := by rfl) : EvN (tLst t) o en ds := fun _ _ _ _ _ k Q q => by
  refine h _ _ _ _ _ k _ fun vs F1 H1 g1 r1 => ?_
  refine ⟨Nat.le_of_lt (small1000 (by rw [r1.length]; exact Nat.le_of_ble_eq_true hl)), fun p hp => ?_⟩
  exact q p vs F1 _ (g1.trans (Gr.own g1.fh hp)) (g1.hh.free hp) (g1.fh.free hp) upd_same r1

/-! ### tests, and or not -/
theorem et_test {b : Bool} (h : EvB te o en (.bl b)) : EvT (tTest te) o en b := fun _ _ _ _ _ k Q q => h _ _ _ _ _ k _ fun v F1 H1 g1 r1 => by
  cases r1
  exact ⟨b, rfl, q _ _ g1⟩
theorem et_B {b : Bool} (h : EvB te o en (.bl b)) : EvT (tB te) o en b := fun _ _ _ _ _ k Q q => h _ _ _ _ _ k _ fun v F1 H1 g1 r1 => by
  cases r1
  exact ⟨b, rfl, q _ _ g1⟩
theorem et_and {a b : Bool} (h1 : EvT tt o en a) (h2 : a = true → EvT tu o en b) : EvT (tAnd tt tu) o en (a && b) := fun _ _ _ _ _ k Q q => h1 _ _ _ _ _ k _ fun F1 H1 g1 => by
  cases a with
  | true =>
    refine iteT (h2 rfl _ _ _ _ _ (k.grow g1) _ fun F2 H2 g2 => ?_)
    exact q _ _ (g1.trans g2)
  | false => exact iteF (q _ _ g1)
theorem et_or {a b : Bool} (h1 : EvT tt o en a) (h2 : a = false → EvT tu o en b) : EvT (tOr tt tu) o en (a || b) := fun _ _ _ _ _ k Q q => h1 _ _ _ _ _ k _ fun F1 H1 g1 => by
  cases a with
  | false =>
    refine iteF (h2 rfl _ _ _ _ _ (k.grow g1) _ fun F2 H2 g2 => ?_)
    exact q _ _ (g1.trans g2)
  | true => exact iteT (q _ _ g1)
theorem et_not {a : Bool} (h1 : EvT tt o en a) : EvT (tNot tt) o en (!a) := fun _ _ _ _ _ k Q q => h1 _ _ _ _ _ k _ fun F1 H1 g1 => q _ _ g1
theorem ev_and {a b : Bool} (h1 : EvB ta o en (.bl a)) (h2 : a = true → EvB tb o en (.bl b)) : Ev (tAndV ta tb) o en (.bl (a && b)) := fun _ _ _ _ _ k Q q => h1 _ _ _ _ _ k _ fun v F1 H1 g1 r1 => by
  cases r1
  refine ⟨a, rfl, ?_⟩
  cases a with
  | true =>
    refine iteT (h2 rfl _ _ _ _ _ (k.grow g1) _ fun w F2 H2 g2 r2 => ?_)
    exact q _ _ _ (g1.trans g2) (r2.flat rfl)
  | false => exact iteF (q _ _ _ g1 (.bl _))
theorem ev_or {a b : Bool} (h1 : EvB ta o en (.bl a)) (h2 : a = false → EvB tb o en (.bl b)) : Ev (tOrV ta tb) o en (.bl (a || b)) := fun _ _ _ _ _ k Q q => h1 _ _ _ _ _ k _ fun v F1 H1 g1 r1 => by
  cases r1
  refine ⟨a, rfl, ?_⟩
  cases a with
  | false =>
    refine iteF (h2 rfl _ _ _ _ _ (k.grow g1) _ fun w F2 H2 g2 r2 => ?_)
    exact q _ _ _ (g1.trans g2) (r2.flat rfl)
  | true => exact iteT (q _ _ _ g1 (.bl _))
theorem ev_not {a : Bool} (h1 : EvB ta o en (.bl a)) : Ev (tNotV ta) o en (.bl (!a)) := fun _ _ _ _ _ k Q q => h1 _ _ _ _ _ k _ fun v F1 H1 g1 r1 => by
  cases r1
  exact ⟨a, rfl, q _ _ _ g1 (.bl _)⟩

/-! ### operators -/
def rAddA : R2 := fun x y H Q => (∃ i j : Int, x = .int i ∧ y = .int j ∧ Q (.int (i + j)) H) ∨ (∃ i j : Str, x = .str i ∧ y = .str j ∧ i.length + j.length ≤ sizeLine ∧ Q (.str (i ++ j)) H) ∨ rCat x y H Q
theorem op_addA {X : Cx} : OpR X (binaryOp .Add) rAddA := OpR.or op_add (OpR.or op_add_str op_cat)
def rMulA : R2 := fun x y H Q => (∃ i j : Int, x = .int i ∧ y = .int j ∧ CMul i j ∧ Q (.int (i * j)) H) ∨ rRep x y H Q
theorem op_mulA {X : Cx} : OpR X (binaryOp .Mult) rMulA := OpR.or op_mul op_rep
def rSubI : R2 := rI0 fun i j => .int (i - j)
theorem op_subI {X : Cx} : OpR X (binaryOp .Sub) rSubI := op_sub
def rModI : R2 := rI (fun _ j => 0 < j) fun i j => .int (i % j)
theorem op_modI {X : Cx} : OpR X (binaryOp .Mod) rModI := op_mod
def rDivI : R2 := rI CDivW fun i j => .int (i / j)
theorem op_divI {X : Cx} : OpR X (binaryOp .FloorDiv) rDivI := op_fdivW
def rPowI : R2 := rI CPow fun i j => .int (i ^ j.toNat)
theorem op_powI {X : Cx} : OpR X (binaryOp .Pow) rPowI := op_pow
def rLtI : R2 := rI0 fun i j => .bl (decide (i < j))
theorem op_ltI {X : Cx} : OpR X (compareOp .Lt) rLtI := op_lt
def rLeI : R2 := rI0 fun i j => .bl (decide (i ≤ j))
theorem op_leI {X : Cx} : OpR X (compareOp .LtE) rLeI := op_le
def rGtI : R2 := rI0 fun i j => .bl (decide (j < i))
theorem op_gtI {X : Cx} : OpR X (compareOp .Gt) rGtI := op_gt
def rGeI : R2 := rI0 fun i j => .bl (decide (j ≤ i))
theorem op_geI {X : Cx} : OpR X (compareOp .GtE) rGeI := op_ge
variable {a b : Int}
theorem ev_add (ha : EvB ta o en (.int a)) (hb : EvB tb o en (.int b)) : Ev (tOp rAddA ta tb) o en (.int (a + b)) := ev_op2 ha hb rfl fun Q r s q => by
  cases r; cases s
  exact .inl ⟨a, b, rfl, rfl, q _ (.int _)⟩
theorem ev_addS {u v : Str} (ha : EvB ta o en (.str u)) (hb : EvB tb o en (.str v)) (h : u.length + v.length ≤ 1000) : Ev (tOp rAddA ta tb) o en (.str (u ++ v)) := ev_op2 ha hb rfl fun Q r s q => by
  cases r; cases s
  exact .inr (.inl ⟨u, v, rfl, rfl, Nat.le_of_lt (small1000 h), q _ (.str _)⟩)
theorem ev_cat {xs ys : List Dt} (ha : Ev ta o en (.lst xs)) (hb : Ev tb o en (.lst ys)) (hl : xs.length + ys.length ≤ 1000) : EvN (tOp rAddA ta tb) o en (xs ++ ys) := fun _ _ _ _ _ k Q q => by
  refine ha _ _ _ _ _ k _ fun v F1 H1 g1 r1 => ?_
  refine hb _ _ _ _ _ (k.grow g1) _ fun w F2 H2 g2 r2 => ?_
  have r1 := r1.mono g2.ff
  cases r1 with
  | lst h1 d1 =>
  cases r2 with
  | lst h2 d2 =>
  refine .inr (.inr ⟨_, _, _, _, rfl, rfl, g2.fh _ _ h1, g2.fh _ _ h2, Nat.le_of_lt (small1000 (by rw [d1.length, d2.length]; exact hl)), fun p hp => ?_⟩)
  have g := g1.trans g2
  exact q p _ F2 _ (g.trans (Gr.own g2.fh hp)) (g.hh.free hp) (g2.fh.free hp) upd_same (d1.app d2)
theorem flatten_rep {α : Type} (x : α) : ∀ n : Nat, (List.replicate n [x]).flatten = List.replicate n x
  | 0 => rfl
  | n + 1 => by
    rw [List.replicate_succ, List.flatten_cons, flatten_rep x n]
    rfl
theorem ev_rep (ha : Ev ta o en (.lst [x])) (hb : EvB tb o en (.int a)) (h0 : -1000 ≤ a) (h1 : a ≤ 1000) : EvN (tOp rMulA ta tb) o en (List.replicate a.toNat x) := fun _ _ _ _ _ k Q q => by
  refine ha _ _ _ _ _ k _ fun v F1 H1 g1 r1 => ?_
  refine hb _ _ _ _ _ (k.grow g1) _ fun w F2 H2 g2 r2 => ?_
  have r1 := r1.mono g2.ff
  cases r2
  cases r1 with
  | lst h1' d1 =>
  cases d1 with
  | cons e1 e2 =>
  cases e2
  refine .inr ⟨_, _, _, rfl, rfl, g2.fh _ _ h1', by omega, by omega, Nat.le_of_lt (small1000 (by rw [List.length_singleton]; omega)), fun p hp => ?_⟩
  have g := g1.trans g2
  refine q p _ F2 _ (g.trans (Gr.own g2.fh hp)) (g.hh.free hp) (g2.fh.free hp) upd_same ?_
  rw [flatten_rep]
  exact Dvs.rep e1 _
theorem ev_mul (ha : EvB ta o en (.int a)) (hb : EvB tb o en (.int b)) (h : CMul a b) : Ev (tOp rMulA ta tb) o en (.int (a * b)) := ev_op2 ha hb rfl fun Q r s q => by
  cases r; cases s
  exact .inl ⟨a, b, rfl, rfl, h, q _ (.int _)⟩
theorem ev_sub (ha : EvB ta o en (.int a)) (hb : EvB tb o en (.int b)) : Ev (tOp rSubI ta tb) o en (.int (a - b)) := ev_op2 ha hb rfl fun Q r s q => by
  cases r; cases s
  exact ⟨a, b, rfl, rfl, q _ (.int _)⟩
theorem ev_mod (ha : EvB ta o en (.int a)) (hb : EvB tb o en (.int b)) (h : 0 < b) : Ev (tOp rModI ta tb) o en (.int (a % b)) := ev_op2 ha hb rfl fun Q r s q => by
  cases r; cases s
  exact ⟨a, b, rfl, rfl, h, q _ (.int _)⟩
theorem ev_div (ha : EvB ta o en (.int a)) (hb : EvB tb o en (.int b)) (h : CDivW a b) : Ev (tOp rDivI ta tb) o en (.int (a / b)) := ev_op2 ha hb rfl fun Q r s q => by
  cases r; cases s
  exact ⟨a, b, rfl, rfl, h, q _ (.int _)⟩
theorem ev_pow (ha : EvB ta o en (.int a)) (hb : EvB tb o en (.int b)) (h : CPow a b) : Ev (tOp rPowI ta tb) o en (.int (a ^ b.toNat)) := ev_op2 ha hb rfl fun Q r s q => by
  cases r; cases s
  exact ⟨a, b, rfl, rfl, h, q _ (.int _)⟩
theorem ev_lt (ha : EvB ta o en (.int a)) (hb : EvB tb o en (.int b)) : Ev (tOp rLtI ta tb) o en (.bl (decide (a < b))) := ev_op2 ha hb rfl fun Q r s q => by
  cases r; cases s
  exact ⟨a, b, rfl, rfl, q _ (.bl _)⟩
theorem ev_le (ha : EvB ta o en (.int a)) (hb : EvB tb o en (.int b)) : Ev (tOp rLeI ta tb) o en (.bl (decide (a ≤ b))) := ev_op2 ha hb rfl fun Q r s q => by
  cases r; cases s
  exact ⟨a, b, rfl, rfl, q _ (.bl _)⟩
theorem ev_gt (ha : EvB ta o en (.int a)) (hb : EvB tb o en (.int b)) : Ev (tOp rGtI ta tb) o en (.bl (decide (b < a))) := ev_op2 ha hb rfl fun Q r s q => by
  cases r; cases s
  exact ⟨a, b, rfl, rfl, q _ (.bl _)⟩
theorem ev_ge (ha : EvB ta o en (.int a)) (hb : EvB tb o en (.int b)) : Ev (tOp rGeI ta tb) o en (.bl (decide (b ≤ a))) := ev_op2 ha hb rfl fun Q r s q => by
  cases r; cases s
  exact ⟨a, b, rfl, rfl, q _ (.bl _)⟩

/-! ### equality, in -/
/-- data that == and in take -/
def Lay (d : Dt) : Prop := d.pure = true ∧ SeqAt.shaped d.py = true
theorem ev_eqD (ha : EvB ta o en x) (hb : EvB tb o en y) (hx : Lay x) (hy : Lay y) : Ev (tOp (rEqD K) ta tb) o en (.bl (PyData.eqv x.py y.py)) := ev_op2 ha hb rfl fun Q r s q =>
  ⟨x.py, y.py, r.dp hx.1, s.dp hy.1, hx.2, hy.2, q _ (.bl _)⟩
theorem ev_neD (ha : EvB ta o en x) (hb : EvB tb o en y) (hx : Lay x) (hy : Lay y) : Ev (tOp (rNeD K) ta tb) o en (.bl (!PyData.eqv x.py y.py)) := ev_op2 ha hb rfl fun Q r s q =>
  ⟨x.py, y.py, r.dp hx.1, s.dp hy.1, hx.2, hy.2, q _ (.bl _)⟩
section
variable {α : Type} [DecidableEq α] {f : α → Dt} {n : Nat} {u v : α}
theorem ev_eq (hf : Enc f n) (ha : EvB ta o en (f u)) (hb : EvB tb o en (f v)) (hx : Lay (f u)) (hy : Lay (f v)) : Ev (tOp (rEqD K) ta tb) o en (.bl (decide (u = v))) := (ev_eqD ha hb hx hy).to (by rw [hf.eq])
theorem ev_ne (hf : Enc f n) (ha : EvB ta o en (f u)) (hb : EvB tb o en (f v)) (hx : Lay (f u)) (hy : Lay (f v)) : Ev (tOp (rNeD K) ta tb) o en (.bl (!decide (u = v))) := (ev_neD ha hb hx hy).to (by rw [hf.eq])
end
def rInA (K : PySem.W.Frag) : R2 := fun x y H Q => rIn K false x y H Q ∨ rInD K x y H Q ∨ rInS x y H Q
def rNotInA (K : PySem.W.Frag) : R2 := fun x y H Q => rIn K true x y H Q ∨ rNotInD K x y H Q
end
end Dl

namespace Dl
open PySem L2

section
variable {K : PySem.W.Frag} {o : Ow} {en : En} {te ta tb tc : TE} {d x y z : Dt} {ds es : List Dt} {tt tu : TT} {i : Nat} {t : TA} {a b : Int}

/-! ### in -/
theorem flat_ints : ∀ ns : List Int, (ns.map V.int).all flatV = true
  | [] => rfl
  | _ :: ns => by
    rw [List.map_cons, List.all_cons, flat_ints ns]; rfl
theorem in_ints (n : Int) : ∀ ns : List Int, inV (V.int n) (ns.map V.int) = decide (n ∈ ns)
  | [] => by simp [inV]
  | m :: ns => by
    have ih := in_ints n ns
    unfold inV at ih ⊢
    rw [List.map_cons, List.any_cons, ih]
    show ((m == n) || decide (n ∈ ns)) = decide (n ∈ m :: ns)
    by_cases e : m = n
    · subst e; simp
    · rw [beq_eq_false_iff_ne.mpr e, Bool.false_or]
      exact decide_eq_decide.mpr ⟨fun h => List.mem_cons_of_mem _ h, fun h => (List.mem_cons.mp h).resolve_left fun z => e z.symm⟩
theorem ev_inI {ns : List Int} {n : Int} (ha : EvB ta o en (.int n)) (hb : EvB tb o en (L .int ns)) : Ev (tOp (rInA K) ta tb) o en (.bl (decide (n ∈ ns))) := ev_op2 ha hb rfl fun Q r s q => by
  cases r
  cases s with
  | lst h hs =>
    cases hs.ints
    refine .inl ⟨_, _, rfl, .inl (.inl (.inl h)), rfl, flat_ints ns, ?_⟩
    rw [if_neg Bool.false_ne_true, in_ints]
    exact q _ (.bl _)
theorem ev_inIS {ns : List Int} {n : Int} {k : Bool} (ha : EvB ta o en (.int n)) (hb : EvB tb o en (S k .int ns)) : Ev (tOp (rInA K) ta tb) o en (.bl (decide (n ∈ ns))) := by
  cases k with
  | false => exact ev_inI ha hb
  | true =>
    refine ev_op2 (x := .int n) (y := .tup (ns.map .int)) ha hb rfl fun Q r s q => ?_
    cases r
    cases s with
    | tup h hs =>
      cases hs.ints
      refine .inl ⟨_, _, rfl, .inr (.inl (.inl h)), rfl, flat_ints ns, ?_⟩
      rw [if_neg Bool.false_ne_true, in_ints]
      exact q _ (.bl _)
section
variable {α : Type} [DecidableEq α] {f : α → Dt} {n : Nat} {u : α} {us : List α}
theorem pys_any (hf : Enc f n) : ∀ us : List α, (Dt.pys (us.map f)).any (fun z => PyData.eqv z (f u).py) = decide (u ∈ us)
  | [] => by simp [Dt.pys]
  | v :: us => by
    rw [List.map_cons]
    show (PyData.eqv (f v).py (f u).py || (Dt.pys (us.map f)).any _) = _
    rw [hf.eq, pys_any hf us]
    by_cases e : v = u
    · subst e; simp
    · rw [decide_eq_false e, Bool.false_or]
      exact decide_eq_decide.mpr ⟨fun h => List.mem_cons_of_mem _ h, fun h => (List.mem_cons.mp h).resolve_left fun z => e z.symm⟩
theorem ev_inD (hf : Enc f n) (ha : EvB ta o en (f u)) (hb : EvB tb o en (L f us)) (hx : Lay (f u)) (hy : Lay (L f us)) : Ev (tOp (rInA K) ta tb) o en (.bl (decide (u ∈ us))) := ev_op2 ha hb rfl fun Q r s q => by
  refine .inr (.inl ⟨(f u).py, Dt.pys (us.map f), r.dp hx.1, s.dp hy.1, hx.2, hy.2, ?_⟩)
  rw [pys_any hf]
  exact q _ (.bl _)
theorem ev_notInD (hf : Enc f n) (ha : EvB ta o en (f u)) (hb : EvB tb o en (L f us)) (hx : Lay (f u)) (hy : Lay (L f us)) : Ev (tOp (rNotInA K) ta tb) o en (.bl (!decide (u ∈ us))) := ev_op2 ha hb rfl fun Q r s q => by
  refine .inr ⟨(f u).py, Dt.pys (us.map f), r.dp hx.1, s.dp hy.1, hx.2, hy.2, ?_⟩
  rw [pys_any hf]
  exact q _ (.bl _)
end
theorem ev_inS {c : Nat} {w : Str} (ha : EvB ta o en (.str ⟨#[c]⟩)) (hb : EvB tb o en (.str w)) : Ev (tOp (rInA K) ta tb) o en (.bl (decide (c ∈ w.cps.toList))) := ev_op2 ha hb rfl fun Q r s q => by
  cases r; cases s
  exact .inr (.inr ⟨c, w, rfl, rfl, q _ (.bl _)⟩)
theorem op_inA {X : Cx} (hu : X.A.units + 65 < cLine) : OpR X (compareOp .In) (rInA X.K) := OpR.or op_in_seq (OpR.or (op_inD hu) op_inS)
theorem op_notInA {X : Cx} (hu : X.A.units + 65 < cLine) : OpR X (compareOp .NotIn) (rNotInA X.K) := OpR.or op_notIn_seq (op_notInD hu)

/-! ### items, slices, fields -/
theorem atI_D {F : Hp} {xs : List V} (h : Dvs F xs ds) (e : atI ds a = some d) : ∃ v, atI xs a = some v ∧ Dv F v d := by
  unfold atI at e ⊢
  rw [h.length]
  cases q : ixN ds.length a with
  | none => rw [q] at e; cases e
  | some j =>
    rw [q] at e
    exact h.get e
theorem ev_ixL (ha : Ev ta o en (.lst ds)) (hb : EvB tb o en (.int a)) (e : atI ds a = some d) : Ev (tOp (rIx K) ta tb) o en d := fun _ _ _ _ _ k Q q => by
  refine ha _ _ _ _ _ k _ fun v F1 H1 g1 r1 => ?_
  refine hb _ _ _ _ _ (k.grow g1) _ fun w F2 H2 g2 r2 => ?_
  have r1 := r1.mono g2.ff
  cases r2
  cases r1 with
  | lst h hs =>
    obtain ⟨v, e', r⟩ := atI_D hs e
    exact .inl ⟨_, _, _, v, rfl, rfl, .inl (.inl (g2.fh _ _ h)), e', q v F2 H2 (g1.trans g2) r⟩
theorem evb_ixL (ha : EvB ta o en (.lst ds)) (hb : EvB tb o en (.int a)) (e : atI ds a = some d) : EvB (tOp (rIx K) ta tb) o en d := fun _ _ _ _ _ k Q q => by
  refine ha _ _ _ _ _ k _ fun v F1 H1 g1 r1 => ?_
  refine hb _ _ _ _ _ (k.grow g1) _ fun w F2 H2 g2 r2 => ?_
  have r1 := r1.mono g2.hh
  cases r2
  cases r1 with
  | lst h hs =>
    obtain ⟨v, e', r⟩ := atI_D hs e
    exact .inl ⟨_, _, _, v, rfl, rfl, .inl (.inl h), e', q v F2 H2 (g1.trans g2) r⟩
theorem ev_ixT (ha : Ev ta o en (.tup ds)) (hb : EvB tb o en (.int a)) (e : atI ds a = some d) : Ev (tOp (rIx K) ta tb) o en d := fun _ _ _ _ _ k Q q => by
  refine ha _ _ _ _ _ k _ fun v F1 H1 g1 r1 => ?_
  refine hb _ _ _ _ _ (k.grow g1) _ fun w F2 H2 g2 r2 => ?_
  have r1 := r1.mono g2.ff
  cases r2
  cases r1 with
  | tup h hs =>
    obtain ⟨v, e', r⟩ := atI_D hs e
    exact .inr (.inl ⟨_, _, _, v, rfl, rfl, .inl (.inl (g2.fh _ _ h)), e', q v F2 H2 (g1.trans g2) r⟩)
theorem ev_ixS {w : Str} {c : Nat} (ha : EvB ta o en (.str w)) (hb : EvB tb o en (.int a)) (hl : w.length ≤ 1000) (e : atI w.cps.toList a = some c) : Ev (tOp (rIx K) ta tb) o en (.str ⟨#[c]⟩) := ev_op2 ha hb rfl fun Q r s q => by
  cases r; cases s
  exact .inr (.inr ⟨w, a, c, rfl, rfl, Nat.le_of_lt (small1000 hl), e, q _ (.str _)⟩)
/-- an item of a typed list -/
theorem ev_ix {α : Type} {f : α → Dt} {us : List α} {u : α} (ha : Ev ta o en (L f us)) (hb : EvB tb o en (.int a)) (h0 : 0 ≤ a) (e : us[a.toNat]? = some u) : Ev (tOp (rIx K) ta tb) o en (f u) :=
  ev_ixL ha hb (by
    have q : atI (us.map f) ((a.toNat : Nat) : Int) = some (f u) := atI_nat (by rw [List.getElem?_map, e]; rfl)
    rwa [Int.toNat_of_nonneg h0] at q)
theorem evb_ix {α : Type} {f : α → Dt} {us : List α} {u : α} (ha : EvB ta o en (L f us)) (hb : EvB tb o en (.int a)) (h0 : 0 ≤ a) (e : us[a.toNat]? = some u) : EvB (tOp (rIx K) ta tb) o en (f u) :=
  evb_ixL ha hb (by
    have q : atI (us.map f) ((a.toNat : Nat) : Int) = some (f u) := atI_nat (by rw [List.getElem?_map, e]; rfl)
    rwa [Int.toNat_of_nonneg h0] at q)
/-- of a list or a tuple of ints -/
theorem ev_ixIS {us : List Int} {u : Int} {k : Bool} (ha : Ev ta o en (S k .int us)) (hb : EvB tb o en (.int a)) (h0 : 0 ≤ a) (e : us[a.toNat]? = some u) : Ev (tOp (rIx K) ta tb) o en (.int u) := by
  cases k with
  | false => exact ev_ix ha hb h0 e
  | true =>
    exact ev_ixT ha hb (by
      have q : atI (us.map Dt.int) ((a.toNat : Nat) : Int) = some (.int u) := atI_nat (by rw [List.getElem?_map, e]; rfl)
      rwa [Int.toNat_of_nonneg h0] at q)

/-- an item of the script -/
theorem ev_ixR {us : List Int} {u : Int} (ha : EvB ta o en (.scr K us)) (hb : EvB tb o en (.int a)) (h0 : 0 ≤ a) (e : us[a.toNat]? = some u) : Ev (tOp (rIx K) ta tb) o en (.int u) := ev_op2 ha hb rfl fun Q r s q => by
  cases s
  cases r with
  | scr h =>
    have e' : atI (us.map V.int) ((a.toNat : Nat) : Int) = some (.int u) := atI_nat (by rw [List.getElem?_map, e]; rfl)
    rw [Int.toNat_of_nonneg h0] at e'
    exact .inl ⟨_, _, _, _, rfl, rfl, h, e', q _ (.int u)⟩
theorem eo_none : EvO tNoPart o en none := fun _ _ _ _ _ k Q q => q _ _ (.refl k.fh)
theorem eo_some (h : EvB te o en (.int a)) : EvO (tPart te) o en (some a) := fun _ _ _ _ _ k Q q => h _ _ _ _ _ k _ fun v F1 H1 g1 r1 => by
  cases r1
  exact ⟨a, rfl, q _ _ g1⟩
/-- a slice of a list, of a tuple (the whole tuple is itself) -/
def rSlX (K : PySem.W.Frag) : V → Option Int → Option Int → Hp → VK → Prop := fun x lo hi H Q => rSlL K x lo hi H Q ∨ rSlA K x lo hi H Q
theorem sl_any {X : Cx} : SlR X (rSlX X.K) := SlR.or sl_list sl_tupA
def cutD (ds : List Dt) (lo hi : Option Int) : List Dt := (ds.drop (HT.sIx ds.length 0 lo)).take (HT.sIx ds.length ds.length hi - HT.sIx ds.length 0 lo)
theorem Dvs.cut {F : Hp} {xs : List V} (h : Dvs F xs ds) (lo hi : Option Int) : Dvs F (cutV xs lo hi) (cutD ds lo hi) := by
  unfold cutV cutD
  rw [h.length]
  exact (h.drop _).take _
theorem ev_slL {tl th : TO} {lo hi : Option Int} (ha : Ev ta o en (.lst ds)) (hl : EvO tl o en lo) (hh : EvO th o en hi) : EvN (tSl (rSlX K) ta tl th) o en (cutD ds lo hi) := fun _ _ _ _ _ k Q q => by
  refine ha _ _ _ _ _ k _ fun v F1 H1 g1 r1 => ?_
  refine hl _ _ _ _ _ (k.grow g1) _ fun F2 H2 g2 => ?_
  have g12 := g1.trans g2
  refine hh _ _ _ _ _ (k.grow g12) _ fun F3 H3 g3 => ?_
  have g := g12.trans g3
  have r1 := (r1.mono g2.ff).mono g3.ff
  cases r1 with
  | lst h hs => exact .inl ⟨_, _, rfl, .inl (.inl (g3.fh _ _ h)), fun p hp => q p _ F3 _ (g.trans (Gr.own g3.fh hp)) (g.hh.free hp) (g3.fh.free hp) upd_same (hs.cut lo hi)⟩
theorem ev_slT {tl th : TO} {lo hi : Option Int} (ha : Ev ta o en (.tup ds)) (hl : EvO tl o en lo) (hh : EvO th o en hi) : Ev (tSl (rSlX K) ta tl th) o en (.tup (cutD ds lo hi)) := fun _ _ _ _ _ k Q q => by
  refine ha _ _ _ _ _ k _ fun v F1 H1 g1 r1 => ?_
  refine hl _ _ _ _ _ (k.grow g1) _ fun F2 H2 g2 => ?_
  have g12 := g1.trans g2
  refine hh _ _ _ _ _ (k.grow g12) _ fun F3 H3 g3 => ?_
  have g := g12.trans g3
  have r1 := (r1.mono g2.ff).mono g3.ff
  cases r1 with
  | tup h hs =>
    refine .inr ⟨_, _, rfl, .inl (.inl (g3.fh _ _ h)), fun w => ?_, fun w p hp => ?_⟩
    · have e : cutD ds lo hi = ds := by
        unfold cutD
        rw [hs.length] at w
        rw [w.1, w.2, List.drop_zero, Nat.sub_zero, List.take_length]
      rw [e] at q
      exact q _ _ _ g (.tup h hs)
    · exact q _ _ _ (g.trans (Gr.new g3.fh hp)) (.tup upd_same ((hs.cut lo hi).mono (same_new (g3.fh.free hp))))
theorem cut_take (ds : List Dt) {k : Int} (h : 0 ≤ k) : cutD ds none (some k) = ds.take k.toNat := by
  unfold cutD
  have e : HT.sIx ds.length ds.length (some k) = min k.toNat ds.length := by
    have q := HT.sIx_nat ds.length ds.length k.toNat
    rwa [Int.toNat_of_nonneg h] at q
  rw [e, HT.sIx_none, List.drop_zero, Nat.sub_zero]
  by_cases z : k.toNat ≤ ds.length
  · rw [Nat.min_eq_left z]
  · rw [Nat.min_eq_right (by omega), List.take_length, List.take_of_length_le (by omega)]
theorem cut_drop (ds : List Dt) {k : Int} (h : 0 ≤ k) : cutD ds (some k) none = ds.drop k.toNat := by
  unfold cutD
  have e : HT.sIx ds.length 0 (some k) = min k.toNat ds.length := by
    have q := HT.sIx_nat ds.length 0 k.toNat
    rwa [Int.toNat_of_nonneg h] at q
  rw [e, HT.sIx_none]
  by_cases z : k.toNat ≤ ds.length
  · rw [Nat.min_eq_left z, List.take_of_length_le (by rw [List.length_drop]; omega)]
  · rw [Nat.min_eq_right (by omega), Nat.sub_self, List.take_zero, List.drop_eq_nil_of_le (by omega)]
section
variable {α : Type} {f : α → Dt} {us : List α} {k : Bool}
/-- xs[:k] -/
theorem ev_take (ha : Ev ta o en (L f us)) (hh : EvB tb o en (.int a)) (h0 : 0 ≤ a) : EvN (tSl (rSlX K) ta tNoPart (tPart tb)) o en ((us.take a.toNat).map f) :=
  (ev_slL ha eo_none (eo_some hh)).to (by rw [cut_take _ h0, List.map_take])
theorem ev_takeS (ha : Ev ta o en (S k f us)) (hh : EvB tb o en (.int a)) (h0 : 0 ≤ a) : Ev (tSl (rSlX K) ta tNoPart (tPart tb)) o en (S k f (us.take a.toNat)) := by
  cases k with
  | false => exact (ev_take ha hh h0).e
  | true => exact (ev_slT ha eo_none (eo_some hh)).to (by show Dt.tup _ = Dt.tup _; rw [cut_take _ h0, List.map_take])
/-- xs[k:] -/
theorem ev_drop (ha : Ev ta o en (L f us)) (hh : EvB tb o en (.int a)) (h0 : 0 ≤ a) : EvN (tSl (rSlX K) ta (tPart tb) tNoPart) o en ((us.drop a.toNat).map f) :=
  (ev_slL ha (eo_some hh) eo_none).to (by rw [cut_drop _ h0, List.map_drop])
theorem ev_rev (ha : Ev ta o en (L f us)) : EvN (tRevL K ta) o en (us.reverse.map f) := fun _ _ _ _ _ k Q q => by
  refine ha _ _ _ _ _ k _ fun v F1 H1 g1 r1 => ?_
  cases r1 with
  | lst h hs =>
    refine ⟨_, _, rfl, .inl (.inl (g1.fh _ _ h)), fun p hp => q p _ F1 _ (g1.trans (Gr.own g1.fh hp)) (g1.hh.free hp) (g1.fh.free hp) upd_same ?_⟩
    rw [List.map_reverse]
    exact hs.rev
end
theorem ev_fld {C : Addr} {fs : List (Str × Dt)} {f : Str} (ha : Ev ta o en (.obj C fs)) (c : Cls K C) (n : NoAttr K C f) (e : fs.lookup f = some d) : Ev (tFld K ta f) o en d := fun _ _ _ _ _ k Q q => by
  refine ha _ _ _ _ _ k _ fun v F1 H1 g1 r1 => ?_
  cases r1 with
  | obj h hs =>
    obtain ⟨w, e', r⟩ := hs.get e
    exact ⟨_, C, _, _, w, rfl, g1.fh _ _ h, c, n, e', q w F1 H1 g1 r⟩

/-! ### calls of defs -/
def spD (R : List Dt → Dt → Prop) : Sp := fun vs H Q _ => ∃ (F : Hp) (ds : List Dt) (d : Dt), Same F H ∧ Dvs F vs ds ∧ R ds d ∧ ∀ v F' H', Gr F H F' H' → Dv F' v d → Q v H'
def spN (R : List Dt → List Dt → Prop) : Sp := fun vs H Q _ => ∃ (F : Hp) (ds es : List Dt), Same F H ∧ Dvs F vs ds ∧ R ds es ∧ ∀ p xs F' H', Gr F H F' H' → H p = none → F' p = none → H' p = some (.lst xs) → Dvs F' xs es → Q (.ref p) H'
section
variable {R : List Dt → Dt → Prop} {RN : List Dt → List Dt → Prop} {C : Addr} {m : Str} {fs : List (Str × Dt)}
theorem ev_call (ha : EvA t o en ds) (r : R ds d) : Ev (tCall (spD R) [] E0 t) o en d := fun _ _ _ _ _ k Q q => by
  refine ha _ _ _ _ _ k _ fun vs F1 H1 g1 r1 => ?_
  exact ⟨F1, ds, d, g1.fh, by rw [List.append_nil]; exact r1, r, fun v F2 H2 g2 r2 => q v F2 H2 (g1.trans g2) r2⟩
theorem ev_callB (ha : EvAB t o en ds) (r : R ds d) (f : d.flat = true) : Ev (tCall (spD R) [] E0 t) o en d := fun _ _ _ _ _ k Q q => by
  refine ha _ _ _ _ _ k _ fun vs F1 H1 g1 r1 => ?_
  exact ⟨H1, ds, d, Same.refl _, by rw [List.append_nil]; exact r1, r, fun v F2 H2 g2 r2 => q v F1 H2 (g1.trans (Gr.all g1.fh g2)) (r2.flat f)⟩
theorem evn_call (ha : EvA t o en ds) (r : RN ds es) : EvN (tCall (spN RN) [] E0 t) o en es := fun _ _ _ _ _ k Q q => by
  refine ha _ _ _ _ _ k _ fun vs F1 H1 g1 r1 => ?_
  exact ⟨F1, ds, es, g1.fh, by rw [List.append_nil]; exact r1, r, fun p xs F2 H2 g2 h1 h2 h3 h4 => q p xs F2 H2 (g1.trans g2) (g1.hh.free h1) h2 h3 h4⟩
theorem evn_callB (ha : EvAB t o en ds) (r : RN ds es) (f : es.all Dt.flat = true) : EvN (tCall (spN RN) [] E0 t) o en es := fun _ _ _ _ _ k Q q => by
  refine ha _ _ _ _ _ k _ fun vs F1 H1 g1 r1 => ?_
  exact ⟨H1, ds, es, Same.refl _, by rw [List.append_nil]; exact r1, r, fun p xs F2 H2 g2 h1 h2 h3 h4 => q p xs F1 H2 (g1.trans (Gr.all g1.fh g2)) (g1.hh.free h1) (g1.fh.free h1) h3 (h4.flat f)⟩
theorem ev_meth (hx : Ev ta o en (.obj C fs)) (hm : fs.lookup m = none) (ha : EvA t o en ds) (r : R (.obj C fs :: ds) d) : Ev (tMeth C m (spD R) [] E0 ta t) o en d := fun _ _ _ _ _ k Q q => by
  refine hx _ _ _ _ _ k _ fun v F1 H1 g1 r1 => ?_
  have r1' := r1
  cases r1 with
  | obj h hs =>
    refine ⟨_, _, _, rfl, g1.fh _ _ h, hs.no hm, ha _ _ _ _ _ (k.grow g1) _ fun vs F2 H2 g2 r2 => ?_⟩
    exact ⟨F2, _, d, g2.fh, by rw [List.append_nil]; exact .cons (r1'.mono g2.ff) r2, r, fun v F3 H3 g3 r3 => q v F3 H3 ((g1.trans g2).trans g3) r3⟩
theorem evn_meth (hx : Ev ta o en (.obj C fs)) (hm : fs.lookup m = none) (ha : EvA t o en ds) (r : RN (.obj C fs :: ds) es) : EvN (tMeth C m (spN RN) [] E0 ta t) o en es := fun _ _ _ _ _ k Q q => by
  refine hx _ _ _ _ _ k _ fun v F1 H1 g1 r1 => ?_
  have r1' := r1
  cases r1 with
  | obj h hs =>
    refine ⟨_, _, _, rfl, g1.fh _ _ h, hs.no hm, ha _ _ _ _ _ (k.grow g1) _ fun vs F2 H2 g2 r2 => ?_⟩
    have g12 := g1.trans g2
    exact ⟨F2, _, es, g2.fh, by rw [List.append_nil]; exact .cons (r1'.mono g2.ff) r2, r, fun p xs F3 H3 g3 h1 h2 h3 h4 => q p xs F3 H3 (g12.trans g3) (g12.hh.free h1) h2 h3 h4⟩
end

/-! ### built-ins by name -/
theorem ev_cb {r : List V → Hp → VK → Prop} (ha : EvAB t o en ds) (f : z.flat = true) (hr : ∀ {H : Hp} {vs : List V} (Q : VK), Dvs H vs ds → (∀ u, Dv H u z → Q u H) → r vs H Q) : Ev (tCB r t) o en z := fun _ _ _ _ _ k Q q =>
  ha _ _ _ _ _ k _ fun vs F1 H1 g1 r1 => hr Q r1 fun u ru => q u F1 H1 g1 (ru.flat f)
theorem evn_cb {r : List V → Hp → VK → Prop} (ha : EvA t o en ds) (hr : ∀ {F H : Hp} {vs : List V} (Q : VK), Same F H → Dvs F vs ds → (∀ p xs, H p = none → Dvs F xs es → Q (.ref p) (upd H p (.lst xs))) → r vs H Q) : EvN (tCB r t) o en es := fun _ _ _ _ _ k Q q =>
  ha _ _ _ _ _ k _ fun vs F1 H1 g1 r1 => hr Q g1.fh r1 fun p xs hp hx => q p xs F1 _ (g1.trans (Gr.own g1.fh hp)) (g1.hh.free hp) (g1.fh.free hp) upd_same hx
def rLenA (K : PySem.W.Frag) : List V → Hp → VK → Prop := fun xs H Q => (∃ p ys, xs = [.ref p] ∧ (SqL K H p ys ∨ SqT K H p ys) ∧ Q (.int ys.length) H) ∨ (∃ z : Str, xs = [.str z] ∧ z.length ≤ sizeLine ∧ Q (.int z.length) H)
theorem call_lenA {X : Cx} : CallR X (.builtin "len") (rLenA X.K) := CallR.or call_len_seq call_len_str
theorem ev_len0 (ha : EvB ta o en (.lst ds)) : Ev (tCB (rLenA K) (tCons ta tNil)) o en (.int ds.length) := ev_cb (eb_cons ha eb_nil) rfl fun Q r q => by
  cases r with
  | cons r1 r2 =>
    cases r2
    cases r1 with
    | lst h hs =>
      refine .inl ⟨_, _, rfl, .inl (.inl (.inl h)), ?_⟩
      rw [hs.length]
      exact q _ (.int _)
theorem ev_lenT (ha : EvB ta o en (.tup ds)) : Ev (tCB (rLenA K) (tCons ta tNil)) o en (.int ds.length) := ev_cb (eb_cons ha eb_nil) rfl fun Q r q => by
  cases r with
  | cons r1 r2 =>
    cases r2
    cases r1 with
    | tup h hs =>
      refine .inl ⟨_, _, rfl, .inr (.inl (.inl h)), ?_⟩
      rw [hs.length]
      exact q _ (.int _)
theorem ev_lenS {w : Str} (ha : EvB ta o en (.str w)) (h : w.length ≤ 1000) : Ev (tCB (rLenA K) (tCons ta tNil)) o en (.int w.length) := ev_cb (eb_cons ha eb_nil) rfl fun Q r q => by
  cases r with
  | cons r1 r2 =>
    cases r2
    cases r1
    exact .inr ⟨w, rfl, Nat.le_of_lt (small1000 h), q _ (.int _)⟩
theorem ev_lenR {ns : List Int} (ha : EvB ta o en (.scr K ns)) : Ev (tCB (rLenA K) (tCons ta tNil)) o en (.int ns.length) := ev_cb (eb_cons ha eb_nil) rfl fun Q r q => by
  cases r with
  | cons r1 r2 =>
    cases r2
    cases r1 with
    | scr h =>
      refine .inl ⟨_, _, rfl, .inl h, ?_⟩
      rw [List.length_map]
      exact q _ (.int _)
section
variable {α : Type} {f : α → Dt} {us : List α} {k : Bool}
theorem ev_len (ha : EvB ta o en (L f us)) : Ev (tCB (rLenA K) (tCons ta tNil)) o en (.int us.length) := (ev_len0 ha).to (by rw [List.length_map])
theorem ev_lenK (ha : EvB ta o en (S k f us)) : Ev (tCB (rLenA K) (tCons ta tNil)) o en (.int us.length) := by
  cases k with
  | false => exact ev_len ha
  | true => exact (ev_lenT ha).to (by rw [List.length_map])
end
def rListA (K : PySem.W.Frag) : List V → Hp → VK → Prop := fun xs H Q => ∃ p ys, xs = [.ref p] ∧ (SqL K H p ys ∨ SqT K H p ys) ∧ ∀ l, H l = none → Q (.ref l) (upd H l (.lst ys))
theorem call_listA {X : Cx} : CallR X (.type "list") (rListA X.K) := call_list_of
theorem ev_list (ha : Ev ta o en (.lst ds)) : EvN (tCB (rListA K) (tCons ta tNil)) o en ds := evn_cb (ea_cons ha ea_nil) fun Q e r q => by
  cases r with
  | cons r1 r2 =>
    cases r2
    cases r1 with
    | lst h hs => exact ⟨_, _, rfl, .inl (.inl (.inl (e _ _ h))), fun l hl => q l _ hl hs⟩
theorem ev_listT (ha : Ev ta o en (.tup ds)) : EvN (tCB (rListA K) (tCons ta tNil)) o en ds := evn_cb (ea_cons ha ea_nil) fun Q e r q => by
  cases r with
  | cons r1 r2 =>
    cases r2
    cases r1 with
    | tup h hs => exact ⟨_, _, rfl, .inr (.inl (.inl (e _ _ h))), fun l hl => q l _ hl hs⟩
theorem ev_listK {α : Type} {f : α → Dt} {us : List α} {k : Bool} (ha : Ev ta o en (S k f us)) : EvN (tCB (rListA K) (tCons ta tNil)) o en (us.map f) := by
  cases k with
  | false => exact ev_list ha
  | true => exact ev_listT ha
/-- list(xs) of a list that is read alone, its items flat -/
theorem ev_listB (ha : EvB ta o en (.lst ds)) (f : ds.all Dt.flat = true) : EvN (tCB (rListA K) (tCons ta tNil)) o en ds := fun _ _ _ _ _ k Q q => by
  refine eb_cons ha eb_nil _ _ _ _ _ k _ fun vs F1 H1 g1 r1 => ?_
  cases r1 with
  | cons r1 r2 =>
    cases r2
    cases r1 with
    | lst h hs => exact ⟨_, _, rfl, .inl (.inl (.inl h)), fun l hl => q l _ F1 _ (g1.trans (Gr.own g1.fh hl)) (g1.hh.free hl) (g1.fh.free hl) upd_same (hs.flat f)⟩
def rTupA (K : PySem.W.Frag) : List V → Hp → VK → Prop := fun xs H Q => ∃ p ys, xs = [.ref p] ∧ ((SqL K H p ys ∧ ∀ l, H l = none → Q (.ref l) (upd H l (.tup ys))) ∨ (SqT K H p ys ∧ Q (.ref p) H))
theorem call_tupA {X : Cx} : CallR X (.type "tuple") (rTupA X.K) := call_tuple_of
theorem ev_tuple (ha : Ev ta o en (.lst ds)) : Ev (tCB (rTupA K) (tCons ta tNil)) o en (.tup ds) := fun _ _ _ _ _ k Q q => by
  refine ea_cons ha ea_nil _ _ _ _ _ k _ fun vs F1 H1 g1 r1 => ?_
  cases r1 with
  | cons r1 r2 =>
    cases r2
    cases r1 with
    | lst h hs => exact ⟨_, _, rfl, .inl ⟨.inl (.inl (g1.fh _ _ h)), fun l hl => q _ _ _ (g1.trans (Gr.new g1.fh hl)) (.tup upd_same (hs.mono (same_new (g1.fh.free hl))))⟩⟩
theorem ev_all {bs : List Bool} (ha : EvB ta o en (L .bl bs)) : Ev (tCB (rAll K) (tCons ta tNil)) o en (.bl (bs.all id)) := ev_cb (eb_cons ha eb_nil) rfl fun Q r q => by
  cases r with
  | cons r1 r2 =>
    cases r2
    cases r1 with
    | lst h hs =>
      cases hs.bls
      exact ⟨_, bs, rfl, .inl (.inl h), q _ (.bl _)⟩
/-- the greatest -/
def mx (ns : List Int) : Int := ns.foldl max (ns.headD 0)
theorem foldl_max : ∀ (ns : List Int) (a : Int), a ≤ ns.foldl max a ∧ (∀ y, y ∈ ns → y ≤ ns.foldl max a) ∧ (ns.foldl max a = a ∨ ns.foldl max a ∈ ns)
  | [], a => ⟨Int.le_refl a, (fun y h => by cases h), Or.inl rfl⟩
  | n :: ns, a => by
    obtain ⟨h1, h2, h3⟩ := foldl_max ns (max a n)
    rw [List.foldl_cons]
    refine ⟨Int.le_trans (Int.le_max_left a n) h1, fun y hy => ?_, ?_⟩
    · rcases List.mem_cons.mp hy with rfl | hy
      · exact Int.le_trans (Int.le_max_right a _) h1
      · exact h2 y hy
    · rcases h3 with e | e
      · rcases Int.le_total a n with l | l
        · exact .inr (List.mem_cons.mpr (.inl (e.trans (Int.max_eq_right l))))
        · exact .inl (e.trans (Int.max_eq_left l))
      · exact .inr (List.mem_cons.mpr (.inr e))
theorem mx_ge {ns : List Int} {y : Int} (h : y ∈ ns) : y ≤ mx ns := (foldl_max ns _).2.1 y h
theorem mx_mem {ns : List Int} (h : ns ≠ []) : mx ns ∈ ns := by
  rcases (foldl_max ns (ns.headD 0)).2.2 with e | e
  · cases ns with
    | nil => exact absurd rfl h
    | cons n ns => exact List.mem_cons.mpr (.inl e)
  · exact e
theorem mx_eq {ns : List Int} {m : Int} (h : m ∈ ns) (h2 : ∀ y ∈ ns, y ≤ m) : m = mx ns :=
  Int.le_antisymm (mx_ge h) (h2 _ (mx_mem fun z => by rw [z] at h; cases h))
/-- max(xs), max(i, j) -/
def rMaxA (K : PySem.W.Frag) : List V → Hp → VK → Prop := fun vs H Q => rMax K vs H Q ∨ ∃ i j : Int, vs = [.int i, .int j] ∧ Q (.int (if j > i then j else i)) H
theorem call_maxA {X : Cx} (hc : X.calm = true) : CallR X (.builtin "max") (rMaxA X.K) := CallR.or (cr_max hc) (call_max2 hc)
theorem ev_max {ns : List Int} (ha : EvB ta o en (L .int ns)) (hn : ns ≠ []) : Ev (tCB (rMaxA K) (tCons ta tNil)) o en (.int (mx ns)) := ev_cb (eb_cons ha eb_nil) rfl fun Q r q => by
  cases r with
  | cons r1 r2 =>
    cases r2
    cases r1 with
    | lst h hs =>
      cases hs.ints
      exact .inl ⟨_, ns, rfl, .inl (.inl h), List.length_pos_iff.mpr hn, fun m hm hle => by rw [mx_eq hm hle]; exact q _ (.int _)⟩
theorem ev_max2 (ha : EvB ta o en (.int a)) (hb : EvB tb o en (.int b)) : Ev (tCB (rMaxA K) (tCons ta (tCons tb tNil))) o en (.int (max a b)) := ev_cb (eb_cons ha (eb_cons hb eb_nil)) rfl fun Q r q => by
  cases r with
  | cons r1 r2 =>
    cases r2 with
    | cons r2 r3 =>
      cases r3
      cases r1
      cases r2
      have e : (if b > a then b else a) = max a b := by
        by_cases h : b > a
        · rw [if_pos h, Int.max_eq_right (by omega)]
        · rw [if_neg h, Int.max_eq_left (by omega)]
      exact .inr ⟨a, b, rfl, by rw [e]; exact q _ (.int _)⟩
end
end Dl

namespace Dl
open PySem L2

section
variable {K : PySem.W.Frag} {o : Ow} {en : En} {te ta tb tc : TE} {d x y z : Dt} {ds es : List Dt} {tt tu : TT} {i : Nat} {t : TA} {a b : Int}

/-! ### what is walked -/
/-- the iterator yields these, whatever else happens -/
def Yields (J : It) (F : Hp) (items : List Dt) : Prop := ∀ (F1 H1 : Hp), Same F F1 → Same F1 H1 → ∀ i : Nat,
  (∀ d, items[i]? = some d → J.go i H1 ∧ ∀ x H2, J.yld i H1 x H2 → ∃ F2, Gr F1 H1 F2 H2 ∧ Dv F2 x d) ∧ (items.length ≤ i → J.stop i H1)
def Itd (wi : TI) (o : Ow) (en : En) (items : List Dt) : Prop := ∀ (F0 H0 F : Hp) (σ : St) (H : Hp), Ok F0 H0 o en F σ H → ∀ R : It → Hp → Prop, (∀ J F' H', Gr F H F' H' → Yields J F' items → R J H') → wi σ H R
theorem Itd.to {wi : TI} (h : Itd wi o en ds) (e : ds = es) : Itd wi o en es := e ▸ h
theorem yl_list {F : Hp} {p : Addr} {xs : List V} (h : F p = some (.lst xs)) (hs : Dvs F xs ds) : Yields (Itl K p) F ds := fun F1 H1 e1 e2 i => by
  have q : SqL K H1 p xs := .inl (.inl (e2 _ _ (e1 _ _ h)))
  refine ⟨fun d hd => ?_, fun hl => ⟨xs, q, by rw [hs.length]; exact hl⟩⟩
  obtain ⟨v, hv, r⟩ := hs.get hd
  refine ⟨⟨xs, v, q, hv⟩, fun x H2 hy => ?_⟩
  obtain ⟨rfl, hx⟩ := hy
  have e : v = x := Option.some.inj (hv.symm.trans (hx xs q))
  subst e
  exact ⟨F1, .refl e2, r.mono e1⟩
theorem yl_tup {F : Hp} {p : Addr} {xs : List V} (h : F p = some (.tup xs)) (hs : Dvs F xs ds) : Yields (Itt K p) F ds := fun F1 H1 e1 e2 i => by
  have q : SqT K H1 p xs := .inl (.inl (e2 _ _ (e1 _ _ h)))
  refine ⟨fun d hd => ?_, fun hl => ⟨xs, q, by rw [hs.length]; exact hl⟩⟩
  obtain ⟨v, hv, r⟩ := hs.get hd
  refine ⟨⟨xs, v, q, hv⟩, fun x H2 hy => ?_⟩
  obtain ⟨rfl, hx⟩ := hy
  have e : v = x := Option.some.inj (hv.symm.trans (hx xs q))
  subst e
  exact ⟨F1, .refl e2, r.mono e1⟩
theorem itd_list (h : Ev te o en (.lst ds)) : Itd (iList K te) o en ds := fun _ _ _ _ _ k R q => by
  refine h _ _ _ _ _ k _ fun v F1 H1 g1 r1 => ?_
  cases r1 with
  | lst h hs => exact ⟨_, rfl, ⟨_, .inl (.inl (g1.fh _ _ h))⟩, q _ F1 H1 g1 (yl_list h hs)⟩
theorem itd_tup (h : Ev te o en (.tup ds)) : Itd (iTup K te) o en ds := fun _ _ _ _ _ k R q => by
  refine h _ _ _ _ _ k _ fun v F1 H1 g1 r1 => ?_
  cases r1 with
  | tup h hs => exact ⟨_, rfl, ⟨_, .inl (.inl (g1.fh _ _ h))⟩, q _ F1 H1 g1 (yl_tup h hs)⟩
def rangeD (lo : Int) (n : Nat) : List Dt := (List.range n).map fun i => .int (lo + (i : Nat))
theorem yl_rng {F : Hp} {lo : Int} {n : Nat} : Yields (Itr lo n) F (rangeD lo n) := fun F1 H1 e1 e2 i => by
  refine ⟨fun d hd => ?_, fun hl => by unfold rangeD at hl; rwa [List.length_map, List.length_range] at hl⟩
  unfold rangeD at hd
  rw [List.getElem?_map] at hd
  by_cases l : i < n
  · rw [List.getElem?_range l] at hd
    have hd' : Dt.int (lo + (i : Nat)) = d := Option.some.inj hd
    refine ⟨l, fun x H2 hy => ?_⟩
    obtain ⟨rfl, rfl⟩ := hy
    rw [← hd']
    exact ⟨F1, .refl e2, .int _⟩
  · rw [List.getElem?_eq_none (by rw [List.length_range]; omega)] at hd
    cases hd
theorem itd_rng1 (h : EvB ta o en (.int a)) (h0 : -1000000 ≤ a) (h1 : a ≤ 1000000) : Itd (iRng1 (tCons ta tNil)) o en (rangeD 0 a.toNat) := fun _ _ _ _ _ k R q => by
  refine eb_cons h eb_nil _ _ _ _ _ k _ fun vs F1 H1 g1 r1 => ?_
  cases r1 with
  | cons r1 r2 =>
    cases r2
    cases r1
    exact ⟨a, rfl, by omega, by omega, q _ F1 H1 g1 yl_rng⟩
theorem itd_rng2 (h : EvB ta o en (.int a)) (h' : EvB tb o en (.int b)) (h0 : -1000000 ≤ a) (h1 : a ≤ 1000000) (h2 : -1000000 ≤ b) (h3 : b ≤ 1000000) : Itd (iRng2 (tCons ta (tCons tb tNil))) o en (rangeD a (b - a).toNat) := fun _ _ _ _ _ k R q => by
  refine eb_cons h (eb_cons h' eb_nil) _ _ _ _ _ k _ fun vs F1 H1 g1 r1 => ?_
  cases r1 with
  | cons r1 r2 =>
    cases r2 with
    | cons r2 r3 =>
      cases r3
      cases r1
      cases r2
      exact ⟨a, b, rfl, ⟨by omega, by omega, by omega, by omega⟩, q _ F1 H1 g1 yl_rng⟩
def signsD (w : Str) : List Dt := w.cps.toList.map fun c => .str ⟨#[c]⟩
theorem itd_str {w : Str} (h : EvB te o en (.str w)) : Itd (iStr te) o en (signsD w) := fun _ _ _ _ _ k R q => by
  refine h _ _ _ _ _ k _ fun v F1 H1 g1 r1 => ?_
  cases r1
  refine ⟨w, rfl, q _ F1 H1 g1 fun F2 H2 e1 e2 i => ⟨fun d hd => ?_, fun hl => ?_⟩⟩
  · unfold signsD at hd
    rw [List.getElem?_map, Array.getElem?_toList] at hd
    cases e : w.cps[i]? with
    | none => rw [e] at hd; cases hd
    | some c =>
      rw [e] at hd
      have hd' : Dt.str ⟨#[c]⟩ = d := Option.some.inj hd
      refine ⟨(Array.getElem?_eq_some_iff.mp e).1, fun x H3 hy => ?_⟩
      obtain ⟨rfl, c', e', rfl⟩ := hy
      rw [e] at e'
      cases e'
      rw [← hd']
      exact ⟨F2, .refl e2, .str _⟩
  · unfold signsD at hl
    rw [List.length_map, Array.length_toList] at hl
    exact hl
/-- enumerate -/
def enumD (ds : List Dt) : List Dt := ds.mapIdx fun i d => .tup [.int (i : Nat), d]
theorem yl_enum {F : Hp} {p : Addr} {xs : List V} (h : F p = some (.lst xs)) (hs : Dvs F xs ds) : Yields (Ite K p) F (enumD ds) := fun F1 H1 e1 e2 i => by
  have q : SqL K H1 p xs := .inl (.inl (e2 _ _ (e1 _ _ h)))
  refine ⟨fun d hd => ?_, fun hl => ⟨xs, q, by unfold enumD at hl; rw [List.length_mapIdx] at hl; rw [hs.length]; exact hl⟩⟩
  unfold enumD at hd
  rw [List.getElem?_mapIdx] at hd
  cases e : ds[i]? with
  | none => rw [e] at hd; cases hd
  | some c =>
    rw [e] at hd
    have hd' : Dt.tup [.int (i : Nat), c] = d := Option.some.inj hd
    obtain ⟨v, hv, r⟩ := hs.get e
    refine ⟨⟨xs, v, q, hv⟩, fun x H2 hy => ?_⟩
    obtain ⟨T, x', rfl, nT, rfl, hx⟩ := hy
    have e' : v = x' := Option.some.inj (hv.symm.trans (hx xs q))
    subst e'
    rw [← hd']
    refine ⟨_, Gr.new e2 nT, .tup upd_same (.cons (.int _) (.one ((r.mono e1).mono (same_new (e2.free nT)))))⟩
theorem itd_enum (h : Ev ta o en (.lst ds)) : Itd (iEnum K (tCons ta tNil)) o en (enumD ds) := fun _ _ _ _ _ k R q => by
  refine ea_cons h ea_nil _ _ _ _ _ k _ fun vs F1 H1 g1 r1 => ?_
  cases r1 with
  | cons r1 r2 =>
    cases r2
    cases r1 with
    | lst h hs => exact ⟨_, _, rfl, .inl (.inl (g1.fh _ _ h)), q _ F1 H1 g1 (yl_enum h hs)⟩
/-- zip -/
def zipD (ds es : List Dt) : List Dt := List.zipWith (fun d e => .tup [d, e]) ds es
theorem itd_zip (h : Ev ta o en (.lst ds)) (h' : Ev tb o en (.lst es)) : Itd (iZip K (tCons ta (tCons tb tNil))) o en (zipD ds es) := fun _ _ _ _ _ k R q => by
  refine ea_cons h (ea_cons h' ea_nil) _ _ _ _ _ k _ fun vs F1 H1 g1 r1 => ?_
  cases r1 with
  | cons r1 r2 =>
    cases r2 with
    | cons r2 r3 =>
      cases r3
      cases r1 with
      | lst h1 hs1 =>
        cases r2 with
        | lst h2 hs2 =>
          refine ⟨_, _, _, _, rfl, .inl (.inl (g1.fh _ _ h1)), .inl (.inl (g1.fh _ _ h2)), q _ F1 H1 g1 fun F2 H2 e1 e2 i => ⟨fun d hd => ?_, fun hl => ?_⟩⟩
          · unfold zipD at hd
            rw [List.getElem?_zipWith] at hd
            cases e : ds[i]? with
            | none => rw [e] at hd; cases hd
            | some c =>
              cases e' : es[i]? with
              | none => rw [e, e'] at hd; cases hd
              | some c' =>
                rw [e, e'] at hd
                have hd' : Dt.tup [c, c'] = d := Option.some.inj hd
                obtain ⟨v, hv, r⟩ := hs1.get e
                obtain ⟨v', hv', r'⟩ := hs2.get e'
                have s1 : SqL K H2 _ _ := .inl (.inl (e2 _ _ (e1 _ _ h1)))
                have s2 : SqL K H2 _ _ := .inl (.inl (e2 _ _ (e1 _ _ h2)))
                refine ⟨⟨_, _, v, v', s1, s2, hv, hv'⟩, fun x H3 hy => ?_⟩
                obtain ⟨T, x1, x2, rfl, nT, rfl, hx1, hx2⟩ := hy
                have q1 : v = x1 := Option.some.inj (hv.symm.trans (hx1 _ s1))
                have q2 : v' = x2 := Option.some.inj (hv'.symm.trans (hx2 _ s2))
                subst q1 q2
                rw [← hd']
                have sn := same_new (H := F2) (p := T) (o := .tup [v, v']) (e2.free nT)
                exact ⟨_, Gr.new e2 nT, .tup upd_same (.cons ((r.mono e1).mono sn) (.one ((r'.mono e1).mono sn)))⟩
          · unfold zipD at hl
            rw [List.length_zipWith] at hl
            refine ⟨_, _, .inl (.inl (e2 _ _ (e1 _ _ h1))), .inl (.inl (e2 _ _ (e1 _ _ h2))), ?_⟩
            rw [hs1.length, hs2.length]
            omega
/-- reversed -/
theorem itd_rev (h : Ev ta o en (.lst ds)) : Itd (iRev K (tCons ta tNil)) o en ds.reverse := fun _ _ _ _ _ k R q => by
  refine ea_cons h ea_nil _ _ _ _ _ k _ fun vs F1 H1 g1 r1 => ?_
  cases r1 with
  | cons r1 r2 =>
    cases r2
    cases r1 with
    | lst h hs =>
      refine ⟨_, _, rfl, .inl (.inl (g1.fh _ _ h)), q _ F1 H1 g1 fun F2 H2 e1 e2 i => ⟨fun d hd => ?_, fun hl => ?_⟩⟩
      · have hl : i < ds.length := by
          have q := (List.getElem?_eq_some_iff.mp hd).1
          rwa [List.length_reverse] at q
        rw [List.getElem?_reverse hl] at hd
        obtain ⟨v, hv, r⟩ := hs.get hd
        have s1 : SqL K H2 _ _ := .inl (.inl (e2 _ _ (e1 _ _ h)))
        have el := hs.length
        rw [← el] at hv
        refine ⟨⟨by rw [el]; exact hl, _, v, s1, hv⟩, fun x H3 hy => ?_⟩
        obtain ⟨rfl, hx⟩ := hy
        have e : v = x := Option.some.inj (hv.symm.trans (hx _ s1))
        subst e
        exact ⟨F2, .refl e2, r.mono e1⟩
      · rw [List.length_reverse] at hl
        show _ ≤ i
        rw [hs.length]
        exact hl

/-! ### targets -/
/-- storing d by the target leads to the slots en'; js: the slots that are stored -/
def Tg (g : TG) (d : Dt) (o : Ow) (en en' : En) (js : List Nat) : Prop := ∀ (F0 H0 F : Hp) (σ : St) (H : Hp) (v : V), Ok F0 H0 o en F σ H → Dv F v d → ∀ Q : St → Hp → Prop,
  (∀ σ', Ok F0 H0 o en' F σ' H → σ'.length = σ.length → (∀ k : Nat, k ∉ js → σ'[k]? = σ[k]?) → Q σ' H) → g v σ H Q
theorem tg_name {i : Nat} (h : i ∉ o.sl) : Tg (gName i) d o en (en.set i (some d)) [i] := fun _ _ _ σ _ v k r Q q =>
  q _ (k.set h r) (by rw [List.length_set]) fun j hj => List.getElem?_set_ne fun z => hj (by rw [z]; exact List.mem_singleton.mpr rfl)
theorem tg_pair {g1 g2 : TG} {d1 d2 : Dt} {en1 en2 : En} {js1 js2 : List Nat} (h1 : Tg g1 d1 o en en1 js1) (h2 : Tg g2 d2 o en1 en2 js2) : Tg (gTup K 2 (gCons g1 (gCons g2 gNil))) (.tup [d1, d2]) o en en2 (js1 ++ js2) := fun _ _ _ σ _ v k r Q q => by
  cases r with
  | tup h hs =>
    cases hs with
    | cons r1 hs =>
      cases hs with
      | cons r2 hs =>
        cases hs
        refine ⟨_, _, rfl, .inl (.inl (k.fh _ _ h)), rfl, _, _, rfl, h1 _ _ _ _ _ _ k r1 _ fun σ1 k1 l1 e1 => ?_⟩
        refine ⟨_, _, rfl, h2 _ _ _ _ _ _ k1 r2 _ fun σ2 k2 l2 e2 => ⟨rfl, ?_⟩⟩
        refine q σ2 k2 (l2.trans l1) fun j hj => ?_
        exact (e2 j fun z => hj (List.mem_append_right _ z)).trans (e1 j fun z => hj (List.mem_append_left _ z))

/-! ### statements -/
/-- t goes on, from (o, en) to (o', en') -/
def Sd (t : TS) (o : Ow) (en : En) (o' : Ow) (en' : En) : Prop := ∀ (D : Ends) (F0 H0 F : Hp) (σ : St) (H : Hp), Ok F0 H0 o en F σ H → (∀ F' σ' H', Same F F' → Ok F0 H0 o' en' F' σ' H' → D.nx σ' H') → t D σ H
inductive Ret where
  | dat (d : Dt)
  | new (ds : List Dt)
def RetOk (F0 H0 : Hp) : Ret → V → Hp → Prop
  | .dat d, v, H' => ∃ F', Gr F0 H0 F' H' ∧ Dv F' v d
  | .new ds, v, H' => ∃ p xs F', v = .ref p ∧ Gr F0 H0 F' H' ∧ H0 p = none ∧ F' p = none ∧ H' p = some (.lst xs) ∧ Dvs F' xs ds
/-- t ends the def, with the answer r -/
def Blk (t : TS) (o : Ow) (en : En) (r : Ret) : Prop := ∀ (D : Ends) (F0 H0 F : Hp) (σ : St) (H : Hp), Ok F0 H0 o en F σ H → (∀ v H', RetOk F0 H0 r v H' → D.rt v H') → t D σ H
/-- .. or at its end, with None -/
def BlkN (t : TS) (o : Ow) (en : En) : Prop := ∀ (D : Ends) (F0 H0 F : Hp) (σ : St) (H : Hp), Ok F0 H0 o en F σ H → (∀ F' σ' H', Gr F0 H0 F' H' → D.nx σ' H') → t D σ H
variable {t1 t2 t3 : TS} {o1 o2 : Ow} {en1 en2 : En} {r : Ret} {g : TG} {js : List Nat}
theorem sd_seq (h1 : Sd t1 o en o1 en1) (h2 : Sd t2 o1 en1 o2 en2) : Sd (tSeq t1 t2) o en o2 en2 := fun D F0 H0 F σ H k q =>
  h1 _ F0 H0 F σ H k fun F1 σ1 H1 s1 k1 => h2 D F0 H0 F1 σ1 H1 k1 fun F2 σ2 H2 s2 k2 => q F2 σ2 H2 (s1.trans s2) k2
theorem sd_next : Sd tNext o en o en := fun D F0 H0 F σ H k q => q F σ H (Same.refl F) k
theorem Sd.to (h : Sd t1 o en o1 en1) (e : o1 = o2) : Sd t1 o en o2 en1 := e ▸ h
theorem Sd.weak (h : Sd t1 o en o1 en1) (l : LeE en2 en1) : Sd t1 o en o1 en2 := fun D F0 H0 F σ H k q => h D F0 H0 F σ H k fun F1 σ1 H1 s1 k1 => q F1 σ1 H1 s1 (k1.weak l)
theorem blk_seq (h1 : Sd t1 o en o1 en1) (h2 : Blk t2 o1 en1 r) : Blk (tSeq t1 t2) o en r := fun D F0 H0 F σ H k q =>
  h1 _ F0 H0 F σ H k fun F1 σ1 H1 _ k1 => h2 D F0 H0 F1 σ1 H1 k1 q
theorem blk_ret (h : Ev te o en d) : Blk (tRet te) o en (.dat d) := fun D F0 H0 F σ H k q =>
  h _ _ _ _ _ k _ fun v F1 H1 g1 r1 => q v H1 ⟨F1, k.gr.trans g1, r1⟩
theorem blk_retN (h : EvN te o en ds) : Blk (tRet te) o en (.new ds) := fun D F0 H0 F σ H k q =>
  h _ _ _ _ _ k _ fun p xs F1 H1 g1 n0 nf e r1 => q _ H1 ⟨p, xs, F1, rfl, k.gr.trans g1, k.gr.hh.free n0, nf, e, r1⟩
theorem blk_retO : Blk (tRet (tVar i)) (ol i ds) en (.new ds) := fun D F0 H0 F σ H k q => by
  obtain ⟨a, xs, e, n0, nf, h, r⟩ := k.own
  exact ⟨.ref a, e, q _ H ⟨a, xs, F, rfl, k.gr, n0, nf, h, r⟩⟩
/-- the own list is handed out for good -/
theorem blk_retOD : Blk (tRet (tVar i)) (ol i ds) en (.dat (.lst ds)) := fun D F0 H0 F σ H k q => by
  obtain ⟨a, xs, e, n0, nf, h, r⟩ := k.own
  exact ⟨.ref a, e, q _ H ⟨upd F a (.lst xs), k.gr.freeze n0 nf h, .lst upd_same (r.mono (same_new nf))⟩⟩
theorem blk_seqL (h : Blk t1 o en r) : Blk (tSeq t1 t2) o en r := fun D F0 H0 F σ H k q => h _ F0 H0 F σ H k q
theorem blk_if {c : Bool} (hc : EvT tt o en c) (h1 : c = true → Blk (tSeq t1 t3) o en r) (h2 : c = false → Blk (tSeq t2 t3) o en r) : Blk (tSeq (tIfS tt t1 t2) t3) o en r := fun D F0 H0 F σ H k q =>
  hc _ _ _ _ _ k _ fun F1 H1 g1 => by
    cases c with
    | true => exact iteT (h1 rfl D F0 H0 F1 σ H1 (k.grow g1) q)
    | false => exact iteF (h2 rfl D F0 H0 F1 σ H1 (k.grow g1) q)
theorem blk_no (hc : EvT tt o en false) (h2 : Blk t3 o en r) : Blk (tSeq (tIfS tt t1 tNext) t3) o en r := blk_if hc (fun e => by cases e) fun _ => h2
theorem blk_yes (hc : EvT tt o en true) (h2 : Blk t1 o en r) : Blk (tSeq (tIfS tt t1 t2) t3) o en r := blk_if hc (fun _ => blk_seqL h2) fun e => by cases e
theorem blk_if1 {c : Bool} (hc : EvT tt o en c) (h1 : c = true → Blk t1 o en r) (h2 : c = false → Blk t2 o en r) : Blk (tIfS tt t1 t2) o en r := fun D F0 H0 F σ H k q =>
  hc _ _ _ _ _ k _ fun F1 H1 g1 => by
    cases c with
    | true => exact iteT (h1 rfl D F0 H0 F1 σ H1 (k.grow g1) q)
    | false => exact iteF (h2 rfl D F0 H0 F1 σ H1 (k.grow g1) q)
theorem sd_if {c : Bool} (hc : EvT tt o en c) (h1 : c = true → Sd t1 o en o1 en1) (h2 : c = false → Sd t2 o en o1 en1) : Sd (tIfS tt t1 t2) o en o1 en1 := fun D F0 H0 F σ H k q =>
  hc _ _ _ _ _ k _ fun F1 H1 g1 => by
    cases c with
    | true => exact iteT (h1 rfl D F0 H0 F1 σ H1 (k.grow g1) fun F2 σ2 H2 s2 k2 => q F2 σ2 H2 (g1.ff.trans s2) k2)
    | false => exact iteF (h2 rfl D F0 H0 F1 σ H1 (k.grow g1) fun F2 σ2 H2 s2 k2 => q F2 σ2 H2 (g1.ff.trans s2) k2)
theorem sd_no (hc : EvT tt o en false) : Sd (tIfS tt t1 tNext) o en o en := sd_if hc (fun e => by cases e) fun _ => sd_next
theorem sd_set (h : Ev te o en d) (hi : i ∉ o.sl) : Sd (tAsg te (gName i)) o en o (en.set i (some d)) := fun D F0 H0 F σ H k q =>
  h _ _ _ _ _ k _ fun v F1 H1 g1 r1 => q F1 _ H1 g1.ff ((k.grow g1).set hi r1)
theorem sd_asg (h : Ev te o en d) (ht : Tg g d o en en1 js) : Sd (tAsg te g) o en o en1 := fun D F0 H0 F σ H k q =>
  h _ _ _ _ _ k _ fun v F1 H1 g1 r1 => ht _ _ _ _ _ _ (k.grow g1) r1 _ fun σ' k' _ _ => q F1 σ' H1 g1.ff k'
/-- an own list is begun -/
theorem sd_new (h : EvN te noO en ds) (hi : i < en.length) : Sd (tAsg te (gName i)) noO en (ol i ds) (en.set i none) := fun D F0 H0 F σ H k q =>
  h _ _ _ _ _ k _ fun p xs F1 H1 g1 n0 nf e r1 => by
    have k1 := (k.grow g1).setNone (i := i) (v := .ref p) (fun z => by cases z)
    exact q F1 _ H1 g1.ff ⟨k1.gr, k1.env, k1.len, p, xs, List.getElem?_set_self (by rw [k.len]; exact hi), k.gr.hh.free n0, nf, e, r1⟩
/-- the own list is F's from now on -/
theorem sd_keep (h : Sd t1 o en (ol i ds) en1) (hi : i < en1.length) : Sd t1 o en noO (en1.set i (some (.lst ds))) := fun D F0 H0 F σ H k q =>
  h D F0 H0 F σ H k fun F1 σ1 H1 s1 k1 => by
    obtain ⟨a, xs, e, n0, nf, h, r⟩ := k1.own
    have g1 := k1.gr.freeze n0 nf h
    refine q (upd F1 a (.lst xs)) σ1 H1 (s1.trans (same_new nf)) ⟨g1, fun j d' hd => ?_, by rw [List.length_set]; exact k1.len, True.intro⟩
    by_cases z : i = j
    · subst z
      rw [List.getElem?_set_self hi] at hd
      cases hd
      exact ⟨_, e, .lst upd_same (r.mono (same_new nf))⟩
    · rw [List.getElem?_set_ne z] at hd
      obtain ⟨u, h1, s⟩ := k1.env j d' hd
      exact ⟨u, h1, s.mono (same_new nf)⟩
theorem sd_app (h : Ev te (ol i ds) en d) (hl : ds.length < 100000) : Sd (tDrop (tBM K "list" rAppend (tVar i) (tCons te tNil))) (ol i ds) en (ol i (ds ++ [d])) en := fun D F0 H0 F σ H k q => by
  obtain ⟨a, xs, e, n0, nf, hH, r⟩ := k.own
  refine ⟨.ref a, e, .inl ⟨rfl, _, .inl (.inl hH)⟩, h _ _ _ _ _ k _ fun v F1 H1 g1 r1 => ?_⟩
  have nf1 := g1.ap a _ hH nf
  have hH1 := g1.hh a _ hH
  refine ⟨a, xs, v, rfl, rfl, hH1, Nat.lt_of_lt_of_le (by rw [r.length]; exact hl) (by decide : 100000 ≤ sizeLine), ?_⟩
  have k1 := k.grow g1
  exact q F1 σ _ g1.ff ⟨k1.gr.mut n0 nf1, k1.env, k1.len, a, _, e, n0, nf1, upd_same, (r.mono g1.ff).app (.one r1)⟩
theorem sd_ext (h : Ev te (ol i ds) en (.lst es)) (hl : ds.length + es.length ≤ 100000) : Sd (tDrop (tBM K "list" rExtend (tVar i) (tCons te tNil))) (ol i ds) en (ol i (ds ++ es)) en := fun D F0 H0 F σ H k q => by
  obtain ⟨a, xs, e, n0, nf, hH, r⟩ := k.own
  refine ⟨.ref a, e, .inl ⟨rfl, _, .inl (.inl hH)⟩, h _ _ _ _ _ k _ fun v F1 H1 g1 r1 => ?_⟩
  have nf1 := g1.ap a _ hH nf
  have hH1 := g1.hh a _ hH
  cases r1 with
  | lst h2 hs2 =>
    refine ⟨a, _, xs, _, rfl, rfl, hH1, g1.fh _ _ h2, Nat.le_trans (by rw [r.length, hs2.length]; exact hl) (by decide : 100000 ≤ sizeLine), ?_⟩
    have k1 := k.grow g1
    exact q F1 σ _ g1.ff ⟨k1.gr.mut n0 nf1, k1.env, k1.len, a, _, e, n0, nf1, upd_same, (r.mono g1.ff).app hs2⟩
/-- xs[i] = e in the own list -/
theorem sd_setItem {j : Nat} (h : Ev te (ol i ds) en d) (hb : EvB tb (ol i ds) en (.int a)) (hj : ixN ds.length a = some j) : Sd (tAsg te (gSub (tVar i) tb rSetL)) (ol i ds) en (ol i (ds.set j d)) en := fun D F0 H0 F σ H k q => by
  refine h _ _ _ _ _ k _ fun v F1 H1 g1 r1 => ?_
  have k1 := k.grow g1
  obtain ⟨p, xs, e, n0, nf, hH, r⟩ := k1.own
  refine ⟨.ref p, e, hb _ _ _ _ _ k1 _ fun w F2 H2 g2 r2 => ?_⟩
  cases r2
  have nf1 := g2.ap p _ hH nf
  have k2 := k1.grow g2
  refine ⟨p, xs, a, j, rfl, rfl, g2.hh p _ hH, by rw [r.length]; exact hj, ?_⟩
  exact q F2 σ _ (g1.ff.trans g2.ff) ⟨k2.gr.mut n0 nf1, k2.env, k2.len, p, _, e, n0, nf1, upd_same, Dvs.set (r1.mono g2.ff) j (r.mono g2.ff)⟩

/-! ### loops -/
theorem sd_for {wi : TI} {tb : TS} {items : List Dt} (hi : Itd wi o en items) (oi : Nat → Ow) (ei : Nat → En) (h0 : oi 0 = o) (e0 : LeE (ei 0) en)
    (body : ∀ i d, items[i]? = some d → ∃ en1 js, Tg g d (oi i) (ei i) en1 js ∧ Sd tb (oi i) en1 (oi (i + 1)) (ei (i + 1))) : Sd (tFor wi g tb) o en (oi items.length) (ei items.length) := fun D F0 H0 F σ H k q => by
  refine hi _ _ _ _ _ k _ fun J F1 H1 g1 y => ?_
  refine ⟨fun i m σ H => i + m = items.length ∧ ∃ F2, Same F1 F2 ∧ Ok F0 H0 (oi i) (ei i) F2 σ H, ⟨items.length, by omega, F1, Same.refl _, ?_⟩, fun i m σ2 H2 hW => ?_⟩
  · rw [h0]
    exact (k.grow g1).weak e0
  · obtain ⟨em, F2, s2, k2⟩ := hW
    obtain ⟨y1, y2⟩ := y F2 H2 s2 k2.fh i
    cases hd : items[i]? with
    | none =>
      have hl : items.length ≤ i := List.getElem?_eq_none_iff.mp hd
      have e : i = items.length := by omega
      refine .inl ⟨y2 hl, ?_⟩
      rw [e] at k2
      exact q F2 σ2 H2 (g1.ff.trans s2) k2
    | some d =>
      obtain ⟨go, yl⟩ := y1 d hd
      have hl : i < items.length := (List.getElem?_eq_some_iff.mp hd).1
      refine .inr ⟨go, fun σ' H' => ∃ F2, Same F1 F2 ∧ Ok F0 H0 (oi (i + 1)) (ei (i + 1)) F2 σ' H', fun σ' H' h' => ⟨m - 1, by omega, by omega, h'⟩, fun x H3 hy => ?_⟩
      obtain ⟨F3, g3, r3⟩ := yl x H3 hy
      obtain ⟨en1, js, ht, hs⟩ := body i d hd
      have k3 := k2.grow g3
      refine ht _ _ _ _ _ _ k3 r3 _ fun σ4 k4 _ _ => ?_
      exact hs _ _ _ _ _ _ k4 fun F5 σ5 H5 s5 k5 => ⟨F5, (s2.trans g3.ff).trans s5, k5⟩
/-- a while over states of one's own; behind it what follows -/
theorem blk_while {α : Type} {tc : TT} {tb : TS} (Inv : α → Prop) (so : α → Ow) (se : α → En) (c : α → Bool) (μ : α → Nat) (a0 : α) (h0 : Inv a0) (ho : so a0 = o) (he : LeE (se a0) en)
    (test : ∀ a, Inv a → EvT tc (so a) (se a) (c a)) (body : ∀ a, Inv a → c a = true → ∃ a', Inv a' ∧ μ a' < μ a ∧ Sd tb (so a) (se a) (so a') (se a')) (after : ∀ a, Inv a → c a = false → Blk t2 (so a) (se a) r) : Blk (tSeq (tWhile tc tb) t2) o en r := fun D F0 H0 F σ H k q => by
  refine ⟨fun m σ H => ∃ a F1, Inv a ∧ m = μ a ∧ Ok F0 H0 (so a) (se a) F1 σ H, ⟨μ a0, a0, F, h0, rfl, by rw [ho]; exact k.weak he⟩, fun m σ1 H1 hW => ?_⟩
  obtain ⟨a, F1, hI, rfl, k1⟩ := hW
  refine test a hI _ _ _ _ _ k1 _ fun F2 H2 g2 => ?_
  have k2 := k1.grow g2
  cases hc : c a with
  | true =>
    refine iteT ?_
    obtain ⟨a', hI', hm, hs⟩ := body a hI hc
    exact ⟨fun σ' H' => ∃ F3, Ok F0 H0 (so a') (se a') F3 σ' H', fun σ' H' ⟨F3, k3⟩ => ⟨μ a', hm, a', F3, hI', rfl, k3⟩, hs _ _ _ _ _ _ k2 fun F3 σ3 H3 _ k3 => ⟨F3, k3⟩⟩
  | false => exact iteF (after a hI hc D _ _ _ _ _ k2 q)

/-! ### comprehensions -/
def wipeE (en : En) : List Nat → En
  | [] => en
  | v :: vs => (wipeE en vs).set v none
theorem wipe_in : ∀ {vs : List Nat} {σ : St} {i : Nat}, i ∈ vs → (wipe σ vs)[i]? = if i < σ.length then some none else none
  | [], _, _, h => nomatch h
  | v :: vs, σ, i, h => by
    show ((wipe σ vs).set v none)[i]? = _
    by_cases e : v = i
    · subst e
      rw [List.getElem?_set, if_pos rfl, wipe_length]
    · rw [List.getElem?_set_ne e]
      exact wipe_in ((List.mem_cons.mp h).resolve_left fun z => e z.symm)
theorem wipe_out' : ∀ {vs : List Nat} {σ : St} {i : Nat}, i ∉ vs → (wipe σ vs)[i]? = σ[i]?
  | [], _, _, _ => rfl
  | v :: vs, σ, i, h => by
    show ((wipe σ vs).set v none)[i]? = _
    rw [List.getElem?_set_ne fun z => h (by rw [z]; exact List.mem_cons_self)]
    exact wipe_out' fun z => h (List.mem_cons_of_mem _ z)
theorem wipe_same {vs : List Nat} {σ σ' : St} (hl : σ'.length = σ.length) (h : ∀ k : Nat, k ∉ vs → σ'[k]? = (wipe σ vs)[k]?) : wipe σ' vs = wipe σ vs := by
  refine List.ext_getElem? fun i => ?_
  by_cases e : i ∈ vs
  · rw [wipe_in e, wipe_in e, hl]
  · rw [wipe_out' e, h i e]
theorem Ok.wipe {F0 H0 F H : Hp} {σ : St} {vs : List Nat} (k : Ok F0 H0 o en F σ H) (hv : ∀ j ∈ vs, j ∉ o.sl) : Ok F0 H0 o (wipeE en vs) F (L2.wipe σ vs) H := by
  induction vs with
  | nil => exact k
  | cons v vs ih =>
    have k1 := ih fun j hj => hv j (List.mem_cons_of_mem _ hj)
    refine ⟨k1.gr, fun j e q => ?_, ?_, o.slot k1.own fun j hj => List.getElem?_set_ne fun z => hv v List.mem_cons_self (by rw [z]; exact hj)⟩
    · by_cases z : v = j
      · subst z
        have q' : ((wipeE en vs).set v none)[v]? = some (some e) := q
        rw [List.getElem?_set, if_pos rfl] at q'
        split at q' <;> cases q'
      · have q' : ((wipeE en vs).set v none)[j]? = some (some e) := q
        rw [List.getElem?_set_ne z] at q'
        obtain ⟨u, h1, s1⟩ := k1.env j e q'
        exact ⟨u, (List.getElem?_set_ne z).trans h1, s1⟩
    · show ((L2.wipe σ vs).set v none).length = ((wipeE en vs).set v none).length
      rw [List.length_set, List.length_set]
      exact k1.len
/-- [e for x in .. if ..]: items from xs, kept by p, each to out -/
theorem evn_lc {α : Type} {wi : TI} {vs : List Nat} {xs : List α} {f : α → Dt} (p : α → Bool) (out : α → Dt) (hi : Itd wi o en (xs.map f)) (hv : ∀ j ∈ vs, j ∉ o.sl) (hlen : xs.length < 100000)
    (body : ∀ x, x ∈ xs → ∃ en1 js, Tg g (f x) o (wipeE en vs) en1 js ∧ (∀ j ∈ js, j ∈ vs) ∧ EvT tt o en1 (p x) ∧ (p x = true → Ev te o en1 (out x))) : EvN (tLc wi g tt te vs) o en ((xs.filter p).map out) := fun F0 H0 F σ H k Q q => by
  refine hi _ _ _ _ _ k _ fun J F1 H1 g1 y D hD => ?_
  have k1 := k.grow g1
  refine ⟨fun i m H => i + m = xs.length ∧ ∃ F2 acc, Gr F1 H1 F2 H ∧ F2 D = none ∧ H D = some (.lst acc) ∧ Dvs F2 acc (((xs.take i).filter p).map out), ⟨xs.length, by omega, F1, [], Gr.own g1.fh hD, g1.fh.free hD, upd_same, .nil⟩, fun i m H2 hW => ?_⟩
  obtain ⟨em, F2, acc, g2, fD, hHD, hacc⟩ := hW
  obtain ⟨y1, y2⟩ := y F2 H2 g2.ff g2.fh i
  cases hx : xs[i]? with
  | none =>
    have hl : xs.length ≤ i := List.getElem?_eq_none_iff.mp hx
    refine .inl ⟨y2 (by rw [List.length_map]; exact hl), ?_⟩
    rw [List.take_of_length_le hl] at hacc
    exact q D acc F2 H2 (g1.trans g2) (g1.hh.free hD) fD hHD hacc
  | some x =>
    have hl : i < xs.length := (List.getElem?_eq_some_iff.mp hx).1
    obtain ⟨go, yl⟩ := y1 (f x) (by rw [List.getElem?_map, hx]; rfl)
    have hk : ∀ b : Bool, p x = b → ((xs.take (i + 1)).filter p).map out = ((xs.take i).filter p).map out ++ if b = true then [out x] else [] := fun b e => by
      rw [List.take_add_one, hx]
      show ((xs.take i ++ [x]).filter p).map out = _
      rw [List.filter_append, List.map_append, List.filter_cons, e]
      cases b <;> rfl
    refine .inr ⟨go, fun H' => ∃ F2 acc, Gr F1 H1 F2 H' ∧ F2 D = none ∧ H' D = some (.lst acc) ∧ Dvs F2 acc (((xs.take (i + 1)).filter p).map out), fun H' h' => ⟨m - 1, by omega, by omega, h'⟩, fun v H3 hy => ?_⟩
    obtain ⟨F3, g3, r3⟩ := yl v H3 hy
    obtain ⟨en1, js, ht, hjs, htest, helt⟩ := body x (List.mem_of_getElem? hx)
    have g23 := g2.trans g3
    have k3 := (k1.grow g23).wipe hv
    refine ht _ _ _ _ _ _ k3 r3 _ fun σ4 k4 l4 e4 => ⟨?_, ?_⟩
    · exact wipe_same (l4.trans (wipe_length _ _)) fun j hj => e4 j fun z => hj (hjs j z)
    · refine htest _ _ _ _ _ k4 _ fun F5 H5 g5 => ?_
      have g35 := g3.trans g5
      have k5 := k4.grow g5
      cases hp : p x with
      | false =>
        refine iteF ⟨F5, acc, g2.trans g35, g35.ap D _ hHD fD, g35.hh D _ hHD, ?_⟩
        rw [hk false hp, if_neg Bool.false_ne_true, List.append_nil]
        exact hacc.mono g35.ff
      | true =>
        refine iteT (helt hp _ _ _ _ _ k5 _ fun w F6 H6 g6 r6 => ?_)
        have g36 := g35.trans g6
        have fD6 := g36.ap D _ hHD fD
        refine ⟨acc, g36.hh D _ hHD, ?_, F6, acc ++ [w], (g2.trans g36).mut hD fD6, fD6, upd_same, ?_⟩
        · have e1 := hacc.length
          have e2 := List.length_filter_le p (xs.take i)
          rw [List.length_map] at e1
          rw [List.length_take] at e2
          exact Nat.lt_of_lt_of_le (show acc.length < 100000 by omega) (by decide : 100000 ≤ sizeLine)
        · rw [hk true hp, if_pos rfl]
          exact (hacc.mono g36.ff).app (.one r6)
theorem et_yes : EvT tYes o en true := fun _ _ _ _ _ k Q q => q _ _ (.refl k.fh)
/-- .. without a test -/
theorem evn_lc1 {α : Type} {wi : TI} {vs : List Nat} {xs : List α} {f : α → Dt} (out : α → Dt) (hi : Itd wi o en (xs.map f)) (hv : ∀ j ∈ vs, j ∉ o.sl) (hlen : xs.length < 100000)
    (body : ∀ x, x ∈ xs → ∃ en1 js, Tg g (f x) o (wipeE en vs) en1 js ∧ (∀ j ∈ js, j ∈ vs) ∧ Ev te o en1 (out x)) : EvN (tLc wi g tYes te vs) o en (xs.map out) :=
  (evn_lc (fun _ => true) out hi hv hlen fun x hx => let ⟨en1, js, h1, h2, h3⟩ := body x hx; ⟨en1, js, h1, h2, et_yes, fun _ => h3⟩).to (by
    rw [List.filter_eq_self.mpr fun _ _ => rfl])

/-! ### a def -/
def startE (N : List Str) (ds : List Dt) : En := ds.map some ++ List.replicate (N.length - ds.length) none
theorem ok_start {N : List Str} {F H : Hp} {vs : List V} (e : Same F H) (h : Dvs F vs ds) : Ok F H noO (startE N ds) F (L2.start N vs) H := by
  refine ⟨.refl e, fun j d' hd => ?_, ?_, True.intro⟩
  · unfold startE at hd
    unfold L2.start
    have hl := h.length
    by_cases z : j < ds.length
    · rw [List.getElem?_append_left (by rw [List.length_map]; exact z), List.getElem?_map] at hd
      cases q : ds[j]? with
      | none => rw [q] at hd; cases hd
      | some d1 =>
        rw [q] at hd
        have hd' : d1 = d' := Option.some.inj (Option.some.inj hd)
        subst hd'
        obtain ⟨v, hv, r⟩ := h.get q
        exact ⟨v, by rw [List.getElem?_append_left (by rw [List.length_map, hl]; exact z), List.getElem?_map, hv]; rfl, r⟩
    · rw [List.getElem?_append_right (by rw [List.length_map]; omega), List.getElem?_replicate] at hd
      split at hd <;> cases hd
  · unfold L2.start startE
    rw [List.length_append, List.length_append, List.length_map, List.length_map, List.length_replicate, List.length_replicate, h.length]
section
variable {P : Program} {w : World} {mg : Str → Option Value} {base : Heap} {fx qual : Str} {st : Stmt} {f : Addr} {fd : FuncData} {N ps : List Str} {lv : Nat}
/-- a def whose answer is data -/
theorem fn_dat {R : List Dt → Dt → Prop} (F : Fun K fx qual st f fd) (S : FnScope N ps (defScope st)) (len : ∀ ds d, R ds d → ds.length = ps.length)
    (hbody : ∀ (cdv : Value) (A : Around) (outer : List Env) (s : Shared) (H : Hp) (E : XK), Room lv (A.deeper (PyProof.Rows.envOfC qual (defScope st) s.heap.objs.size f cdv)) → ∀ ds d, R ds d →
      ∃ t, PSs (cxOf CX0 P w K mg base N qual (defScope st) f cdv A outer s H E).nox (defBody st) t ∧ Blk t noO (startE N ds) (.dat d)) : FnOk P w K mg base CX0 (lv + 1) f fd ps (spD R) := by
  refine F.ok S (fun vs H Q E h => ?_) (fun cdv A outer s H vs Q E hr h => ?_)
  · obtain ⟨F, ds, d, _, hv, r, _⟩ := h
    rw [hv.length]
    exact len ds d r
  · obtain ⟨F, ds, d, e, hv, r, q⟩ := h
    obtain ⟨t, ht, hb⟩ := hbody cdv A outer s H E hr ds d r
    exact ⟨t, ht, hb _ _ _ _ _ _ (ok_start e hv) fun v H' ⟨F', g, rv⟩ => q v F' H' g rv⟩
/-- .. a new list -/
theorem fn_new {R : List Dt → List Dt → Prop} (F : Fun K fx qual st f fd) (S : FnScope N ps (defScope st)) (len : ∀ ds d, R ds d → ds.length = ps.length)
    (hbody : ∀ (cdv : Value) (A : Around) (outer : List Env) (s : Shared) (H : Hp) (E : XK), Room lv (A.deeper (PyProof.Rows.envOfC qual (defScope st) s.heap.objs.size f cdv)) → ∀ ds es, R ds es →
      ∃ t, PSs (cxOf CX0 P w K mg base N qual (defScope st) f cdv A outer s H E).nox (defBody st) t ∧ Blk t noO (startE N ds) (.new es)) : FnOk P w K mg base CX0 (lv + 1) f fd ps (spN R) := by
  refine F.ok S (fun vs H Q E h => ?_) (fun cdv A outer s H vs Q E hr h => ?_)
  · obtain ⟨F, ds, d, _, hv, r, _⟩ := h
    rw [hv.length]
    exact len ds d r
  · obtain ⟨F, ds, es, e, hv, r, q⟩ := h
    obtain ⟨t, ht, hb⟩ := hbody cdv A outer s H E hr ds es r
    exact ⟨t, ht, hb _ _ _ _ _ _ (ok_start e hv) fun v H' ⟨p, xs, F', ev, g, n0, nf, hp, rv⟩ => by rw [ev]; exact q p xs F' H' g n0 nf hp rv⟩
/-- .. that falls off its end -/
theorem fn_non {R : List Dt → Dt → Prop} (F : Fun K fx qual st f fd) (S : FnScope N ps (defScope st)) (len : ∀ ds d, R ds d → ds.length = ps.length) (rn : ∀ ds d, R ds d → d = .non)
    (hbody : ∀ (cdv : Value) (A : Around) (outer : List Env) (s : Shared) (H : Hp) (E : XK), Room lv (A.deeper (PyProof.Rows.envOfC qual (defScope st) s.heap.objs.size f cdv)) → ∀ ds d, R ds d →
      ∃ t, PSs (cxOf CX0 P w K mg base N qual (defScope st) f cdv A outer s H E).nox (defBody st) t ∧ ∃ o' en', Sd t noO (startE N ds) o' en') : FnOk P w K mg base CX0 (lv + 1) f fd ps (spD R) := by
  refine F.ok S (fun vs H Q E h => ?_) (fun cdv A outer s H vs Q E hr h => ?_)
  · obtain ⟨F, ds, d, _, hv, r, _⟩ := h
    rw [hv.length]
    exact len ds d r
  · obtain ⟨F, ds, d, e, hv, r, q⟩ := h
    have en := rn ds d r
    subst en
    obtain ⟨t, ht, o', en', hb⟩ := hbody cdv A outer s H E hr ds _ r
    exact ⟨t, ht, hb _ _ _ _ _ _ (ok_start e hv) fun F' σ' H' _ k => q .non F' H' k.gr .non⟩
end
end
end Dl

/-! enumerate, sorted, min, max of a tuple; isinstance; list.index; readings of the same by data. -/
namespace Dl
open PySem PySem.Spec PyProof.Rows L2
open PySem.AutoSeq1 (wpAny_loadPart')

/-! ### enumerate(tuple) -/
theorem meets_enumerate_newT (l : Addr) (items : Array Value) (n : Nat) (o : Obj) (hc : o.cls = .type "tuple") (hd : o.data = .seq items n) :
    Meets (Builtin.«enumerate.__new__» ⟨[.type "enumerate", .ref l], []⟩) (fun _ R s => s.heap.get? l = some o ∧
      R (.ok (.ret (.ref (s.heap.push { cls := .type "tuple_iterator", data := .fields #[.ref l, .int 0 0] }).objs.size)))
        { s with heap := (s.heap.push { cls := .type "tuple_iterator", data := .fields #[.ref l, .int 0 0] }).push { cls := .type "enumerate", data := .fields #[.none, .bool false, .ref s.heap.objs.size, rawInt 0, .none, .none] } }) :=
  .of_wp fun prog w A R s h => by
    obtain ⟨hp, g, d, tk, os⟩ := s; obtain ⟨hl, h⟩ := h
    have hsub := sub_enumerate
    have hL : Heap.IsTuple (Shared.heap ⟨hp, g, d, tk, os⟩) l items := ⟨_, hl, hc, n, hd⟩
    wp_walk using wpAny_loadPart' hl
    refine wpAny_stack_any fun st => wpAny_pure ?_
    split
    · rename_i c _ _ _ _ _
      cases (c == Value.type "enumerate")
      · wp_walk using wpAny_loadPart' hl, wpAny_pyIter_tuple hL
        exact ⟨_, rfl, h⟩
      · wp_walk using wpAny_loadPart' hl, wpAny_pyIter_tuple hL
        exact ⟨_, rfl, h⟩
    · wp_walk using wpAny_loadPart' hl, wpAny_pyIter_tuple hL
      exact ⟨_, rfl, h⟩
section
variable {prog : Program} {w : World} {A : Around} {E : Value → Shared → Prop} {s : Shared}
theorem call_enumerate_tuple {l : Addr} {items : Array Value} {Q : Value → Shared → Prop} (hL : s.heap.IsTuple l items)
    (h : ∀ h', IsEnum h' (s.heap.objs.size + 1) s.heap.objs.size 0 .none → h'.IsTupleIter s.heap.objs.size l 0 → h'.objs.size = s.heap.objs.size + 2 →
      (∀ b o, s.heap.get? b = some o → h'.get? b = some o) → Q (.ref (s.heap.objs.size + 1)) { s with heap := h' }) :
    wpAny (model prog w) A (call (.type "enumerate") [.ref l]) Q E s := by
  obtain ⟨o, hl, hc, n, hd⟩ := hL
  refine callType_new F.called_enumerate (by decide) (F.typeCall_enumerate_1 _) (F.newCall_enumerate_1 _) (fun obj => F.args_object_init_2 obj _) F.entry_enumerate_new
    (meets_enumerate_newT l items n o hc hd) ⟨hl, ?_⟩
  have hz : (s.heap.push { cls := .type "tuple_iterator", data := .fields #[.ref l, .int 0 0] }).objs.size = s.heap.objs.size + 1 := Heap.size_push ..
  show _ ∧ _
  rw [hz]
  have he : IsEnum ((s.heap.push { cls := .type "tuple_iterator", data := .fields #[.ref l, .int 0 0] }).push
      { cls := .type "enumerate", data := .fields #[.none, .bool false, .ref s.heap.objs.size, rawInt 0, .none, .none] }) (s.heap.objs.size + 1) s.heap.objs.size 0 .none := by
    have := Heap.get?_push_size (s.heap.push { cls := .type "tuple_iterator", data := .fields #[.ref l, .int 0 0] })
      (o := { cls := .type "enumerate", data := .fields #[.none, .bool false, .ref s.heap.objs.size, rawInt 0, .none, .none] }) rfl
    rw [hz] at this; exact this
  refine ⟨⟨_, he, rfl⟩, h _ he ⟨_, Heap.get?_push_of_some _ (Heap.get?_push_size _ rfl), rfl, rfl⟩ (by rw [Heap.size_push, hz]) fun b o x => Heap.get?_push_of_some _ (Heap.get?_push_of_some _ x)⟩
end
/-- the tuple at a, each item in a new pair -/
def IteT (K : PySem.W.Frag) (a : Addr) : It :=
  ⟨fun i H => ∃ (xs : List V) (x : V), SqT K H a xs ∧ xs[i]? = some x, fun i H v H' => ∃ T x, v = .ref T ∧ H T = none ∧ H' = upd H T (.tup [.int (i : Nat), x]) ∧ ∀ xs, SqT K H a xs → xs[i]? = some x, fun i H => ∃ xs : List V, SqT K H a xs ∧ xs.length ≤ i⟩
theorem turn_enumT {P : Program} {w : World} {K : PySem.W.Frag} {elts : List Expr} {kk : Nat} {tpos : Pos} (a e it : Addr) (hai : a ≠ it) (hae : e ≠ a) :
    Turn P w K (.Tuple elts kk tpos) (IteT K a) [e, it] e (fun i h => (∃ old, IsEnum h e it ((i : Nat) : Int) old) ∧ h.IsTupleIter it a i ∧ e ≠ it) where
  mem := by simp
  obj := fun i h st b hb => by
    obtain ⟨⟨old, he⟩, ⟨o, ho, hc, hd⟩, _⟩ := st
    have e' : b = e ∨ b = it := by simpa using hb
    rcases e' with z | z
    · rw [z]; exact ⟨_, he, fun v q => nomatch q⟩
    · rw [z]; exact ⟨o, ho, fun v q => by rw [hd] at q; cases q⟩
  keep := fun i h h' st k => let ⟨⟨old, he⟩, hi, hne⟩ := st; ⟨⟨old, k e (by simp) _ he⟩, hi.at fun o q => k it (by simp) o q, hne⟩
  item := by
    intro X hP hw hK hc i pins s σ H E I hf st hg
    subst hP hw hK
    obtain ⟨⟨old, he⟩, hit, hne⟩ := st
    obtain ⟨xs, x, hq, hx⟩ := hg
    obtain ⟨its, rv, p, hz⟩ := I.tuple hq
    obtain ⟨u, hu, ru⟩ := rv.get hx
    have hel : e < s.heap.objs.size := Heap.lt_size he
    have hil : it < s.heap.objs.size := by obtain ⟨_, q, _⟩ := hit; exact Heap.lt_size q
    have hln := rv.length
    have hlt : i < its.toArray.size := by
      have q := (List.getElem?_eq_some_iff.mp hx).1
      rw [List.size_toArray]
      omega
    refine wpAny_pyNext_enum_itemD (i := i) (Draws.tuple (A := X.A.in1) (I.ok.hd hc) it a hai its.toArray) he ⟨hit, p⟩ hlt hne (by simp [hne, hae]) fun x' h' tk hP ho hst' hT hsz hk => ?_
    have hxu : x' = u := by
      have q : its.toArray[i]? = some u := by simpa using hu
      rw [q] at hP
      exact (Option.some.inj hP).symm
    subst hxu
    refine ⟨_, rfl, wpAny_letOwnedTupleGo_enum (s := { s with heap := h', toks := tk + 1 }) ho fun h'' he' sb => ?_⟩
    have hT2 : h''.get? s.heap.objs.size = some { cls := .type "tuple", data := .seq #[.int i tk, x'] } := (sb.2 _ (Nat.ne_of_gt hel)).trans hT
    have new : ObjOk X.prog X.w (upd H s.heap.objs.size (.tup [.int (i : Nat), x])) h'' s.heap.objs.size (.tup [.int (i : Nat), x]) :=
      ⟨by show 2 ≤ sizeLine; decide, [.int i tk, x'], .cons ⟨_, rfl⟩ (.cons ru .nil), ⟨_, hT2, rfl, _, rfl⟩⟩
    have I1 : Inv X pins σ (upd H s.heap.objs.size (.tup [.int (i : Nat), x])) { s with heap := h'', toks := tk + 1 } :=
      I.turnedNew (ch := [e, it]) (fun b ob hb q => (sb.2 b (fun z => hb (by simp [z]))).trans (hk b ob (fun z => hb (by simp [z])) (fun z => hb (by simp [z])) q)) hf (Nat.le_refl _) new
    refine ⟨.ref s.heap.objs.size, _, I1, rfl, ⟨_, x, rfl, I.hok.fresh (Nat.le_refl _), rfl, fun ys hy => by rw [I.tuple_inj hy hq]; exact hx⟩, ⟨⟨x', ?_⟩, hst'.1.at fun o q => (sb.2 it (Ne.symm hne)).trans q, hne⟩, fun b hb => ?_⟩
    · have e1 : ((i + 1 : Nat) : Int) = (i : Int) + 1 := by omega
      rw [e1]; exact he'
    · have hb' : b < s.heap.objs.size := by
        have e' : b = e ∨ b = it := by simpa using hb
        rcases e' with z | z
        · rw [z]; exact hel
        · rw [z]; exact hil
      rw [upd_ne (Nat.ne_of_lt hb')]
      exact (hf b hb).1
  done := by
    intro X hP hw hK hc i pins s σ H E I hf st hg
    subst hP hw hK
    obtain ⟨⟨old, he⟩, hit, hne⟩ := st
    obtain ⟨xs, hq, hx⟩ := hg
    obtain ⟨its, rv, p, hz⟩ := I.tuple hq
    obtain ⟨f0, f1, f2, f3, f4, f5⟩ := hf it (by simp)
    have hl := rv.length
    unfold pyNext
    have hT : s.TypeIs (.ref e) "enumerate" := ⟨_, he, rfl⟩
    refine wpAny_bind (wpAny_attempt (wpAny_callSpecial?_slot (name := Str.ofString "__next__") hT F.slot_enumerate_next
      (wpAny_call_entry F.slot_enumerate_next hT F.entry_enumerate_next ?_ (F.args_enumerate_next_1 _))))
    show wpAny _ _ (field (.ref e) 2 >>= _) _ _ _
    refine wpAny_bind (wpAny_field he rfl (x := .ref it) rfl ?_)
    refine wpAny_bind (wpAny_nextOf_tuple_end (I.ok.hd hc) hit p (by simp; omega) fun h' x he' hx' => ?_)
    obtain ⟨o, ho, hcl⟩ := hx'
    refine wpAny_bind (wpAny_isInstance (T := "StopIteration") (b := true) ⟨o, ho, hcl⟩ isSubtype_stop ?_)
    exact wpAny_pure ⟨rfl, I.turned (t' := s.toks) (fun b o hb q => he' b o hb q) f0 f1 f3 f4 f5⟩
  self := fun A i s Q E st h => let ⟨⟨_, he⟩, _⟩ := st; wpAny_pyIter_enum he h
def iEnumT (K : PySem.W.Frag) (ta : TA) : TI := fun σ H R => ta σ H fun vs H1 => ∃ a xs, vs = [.ref a] ∧ SqT K H1 a xs ∧ R (IteT K a) H1
theorem pi_enumT {X : Cx} {e : Expr} {ta : TA} {p pos tpos : Pos} {elts : List Expr} {kk : Nat} (hg : Gl X "enumerate") (hm : X.mg "enumerate" = none) (ha : PA X [e] ta) (hs : starEach [e] X.env = [(false, eval e X.env)] := by rfl) :
    PI X (.Tuple elts kk tpos) (.Call (.Name "enumerate" p) [e] [] pos) (iEnumT X.K ta) := by
  refine ⟨fun pins s σ H R I h => ?_⟩
  refine Call_ (ld_blt I hg hm boot_enumerate (PyProof.Rows.callWith_type1 (thn (ha.run pos pins s σ H _ I h) fun us s1 ⟨vs, H1, I1, r1, q1⟩ => ?_) hs rfl))
  obtain ⟨a, xs, ex, hq, q⟩ := q1
  subst ex
  cases r1 with
  | cons r rr =>
    cases rr
    cases r
    obtain ⟨its, rv, p', hz⟩ := I1.tuple hq
    have hal : a < s1.heap.objs.size := p'.lt
    refine call_enumerate_tuple p' fun h' he hit hsz hk => wpAny_pyIter_enum he ?_
    have I2 : Inv X pins σ H1 { s1 with heap := h' } := I1.kept (t' := s1.toks) hk
    refine ⟨s1.heap.objs.size + 1, [s1.heap.objs.size + 1, s1.heap.objs.size], _, _, H1, rfl, I2, turn_enumT a (s1.heap.objs.size + 1) s1.heap.objs.size (Nat.ne_of_lt hal) (Nat.ne_of_gt (Nat.lt_succ_of_lt hal)), ⟨⟨.none, he⟩, hit, Nat.succ_ne_self _⟩, fun b hb => ?_, q⟩
    have e' : b = s1.heap.objs.size + 1 ∨ b = s1.heap.objs.size := by simpa using hb
    have hle : s1.heap.objs.size ≤ b := by
      rcases e' with z | z
      · rw [z]; exact Nat.le_add_right _ _
      · rw [z]; exact Nat.le_refl _
    exact I1.fpOk hle (I1.hok.fresh hle)

/-! ### min, max, sorted of a tuple -/
section
variable {prog : Program} {w : World} {A : Around} {E : Value → Shared → Prop} {s : Shared} {l : Addr} {its : List Value} {ns : List Int}
theorem kept_tup {h' : Heap} (hk : ∀ b o, b ∉ [s.heap.objs.size] → (s.heap.push { cls := .type "tuple_iterator", data := .fields #[.ref l, .int 0 0] }).get? b = some o → h'.get? b = some o) :
    ∀ b o, s.heap.get? b = some o → h'.get? b = some o := fun b o e => by
  refine hk b o (fun hm => ?_) (Heap.get?_push_of_some _ e)
  rw [List.mem_singleton.mp hm] at e
  exact absurd (Heap.lt_size e) (Nat.lt_irrefl _)
theorem max_rawT {Q : Value → Shared → Prop} (hh : A.handled = none) (hl : s.heap.IsTuple l its.toArray) (hi : IntsAre its ns) (hne : 0 < ns.length)
    (h : ∀ h' tk M t', (∀ b o, s.heap.get? b = some o → h'.get? b = some o) → M ∈ ns → (∀ a, a ∈ ns → a ≤ M) → Q (.int M t') { s with heap := h', toks := tk }) : wpAny (model prog w) A (call (.builtin "max") [.ref l]) Q E s := by
  obtain ⟨xs, e⟩ := hi.allInts.items
  have hn : numsOf (intItems xs).toList = ns := by rw [← e]; exact hi.numsOf
  rw [nums_intItems] at hn
  subst hn
  rw [e] at hl
  have hsz : 0 < xs.size := by simpa using hne
  have hlt : l < s.heap.objs.size := by obtain ⟨_, e, _⟩ := hl; exact Heap.lt_size e
  refine call_max_walk (wpAny_pyIter_tuple hl ?_)
  refine ⟨_, _, _, _, _, _, _, rfl, Walks.tuple (A := A.in1) hh _ l (Nat.ne_of_lt hlt) (intItems xs), ⟨⟨_, Heap.get?_push_size _ rfl, rfl, rfl⟩, hl.push _⟩, fun b hb => ?_, by simpa [intItems] using hsz, CmpOf.ints_gt (numAt xs) (fun _ _ => intItems_at), fun v h' tk hP hk => ?_⟩
  · show b < (s.heap.push _).objs.size
    rw [Heap.size_push]
    rcases List.mem_cons.mp hb with rfl | hb
    · exact Nat.lt_succ_self _
    · rw [List.mem_singleton.mp hb]
      exact Nat.lt_succ_of_lt hlt
  · obtain ⟨t, rfl⟩ := intItems_at (show (intItems xs)[argBest (fun i j => decide (numAt xs i > numAt xs j)) (xs.size - 1)]? = some v by simpa [intItems] using hP)
    obtain ⟨h1, h2⟩ := argBest_gt (numAt xs) (xs.size - 1)
    refine h h' tk _ t (kept_tup hk) ?_ fun a ha => ?_
    · rw [numAt_eq]; exact PySem.getD_mem (by rw [List.length_map, Array.length_toList]; omega)
    · obtain ⟨j, hj, rfl⟩ := mem_getD ha
      rw [List.length_map, Array.length_toList] at hj
      rw [← numAt_eq]; exact h2 j (by omega)
theorem min_rawT {Q : Value → Shared → Prop} (hh : A.handled = none) (hl : s.heap.IsTuple l its.toArray) (hi : IntsAre its ns) (hne : 0 < ns.length)
    (h : ∀ h' tk M t', (∀ b o, s.heap.get? b = some o → h'.get? b = some o) → M ∈ ns → (∀ a, a ∈ ns → M ≤ a) → Q (.int M t') { s with heap := h', toks := tk }) : wpAny (model prog w) A (call (.builtin "min") [.ref l]) Q E s := by
  obtain ⟨xs, e⟩ := hi.allInts.items
  have hn : numsOf (intItems xs).toList = ns := by rw [← e]; exact hi.numsOf
  rw [nums_intItems] at hn
  subst hn
  rw [e] at hl
  have hsz : 0 < xs.size := by simpa using hne
  have hlt : l < s.heap.objs.size := by obtain ⟨_, e, _⟩ := hl; exact Heap.lt_size e
  refine call_min_walk (wpAny_pyIter_tuple hl ?_)
  refine ⟨_, _, _, _, _, _, _, rfl, Walks.tuple (A := A.in1) hh _ l (Nat.ne_of_lt hlt) (intItems xs), ⟨⟨_, Heap.get?_push_size _ rfl, rfl, rfl⟩, hl.push _⟩, fun b hb => ?_, by simpa [intItems] using hsz, CmpOf.ints_lt (numAt xs) (fun _ _ => intItems_at), fun v h' tk hP hk => ?_⟩
  · show b < (s.heap.push _).objs.size
    rw [Heap.size_push]
    rcases List.mem_cons.mp hb with rfl | hb
    · exact Nat.lt_succ_self _
    · rw [List.mem_singleton.mp hb]
      exact Nat.lt_succ_of_lt hlt
  · obtain ⟨t, rfl⟩ := intItems_at (show (intItems xs)[argBest (fun i j => decide (numAt xs i < numAt xs j)) (xs.size - 1)]? = some v by simpa [intItems] using hP)
    obtain ⟨h1, h2⟩ := argBest_lt (numAt xs) (xs.size - 1)
    refine h h' tk _ t (kept_tup hk) ?_ fun a ha => ?_
    · rw [numAt_eq]; exact PySem.getD_mem (by rw [List.length_map, Array.length_toList]; omega)
    · obtain ⟨j, hj, rfl⟩ := mem_getD ha
      rw [List.length_map, Array.length_toList] at hj
      rw [← numAt_eq]; exact h2 j (by omega)
end
section
variable {X : Cx}
def rMaxT (K : PySem.W.Frag) : List V → Hp → VK → Prop := fun vs H Q => ∃ (a : Addr) (ns : List Int), vs = [V.ref a] ∧ SqT K H a (ns.map V.int) ∧ 0 < ns.length ∧ ∀ m, m ∈ ns → (∀ y, y ∈ ns → y ≤ m) → Q (.int m) H
def rMinT (K : PySem.W.Frag) : List V → Hp → VK → Prop := fun vs H Q => ∃ (a : Addr) (ns : List Int), vs = [V.ref a] ∧ SqT K H a (ns.map V.int) ∧ 0 < ns.length ∧ ∀ m, m ∈ ns → (∀ y, y ∈ ns → m ≤ y) → Q (.int m) H
theorem cr_maxT (hc : X.calm = true) : CallR X (.builtin "max") (rMaxT X.K) := by
  intro pins s σ H vs us Q I r h
  obtain ⟨a, ns, rfl, hs, hne, q⟩ := h
  obtain ⟨its, rv, hl, _⟩ := I.tuple hs
  rw [Vals.ref1 r]
  exact max_rawT (I.ok.hd hc) hl rv.ints hne fun h' tk m t' hk h1 h2 => ⟨.int _, H, I.kept hk, ⟨_, rfl⟩, q m h1 h2⟩
theorem cr_minT (hc : X.calm = true) : CallR X (.builtin "min") (rMinT X.K) := by
  intro pins s σ H vs us Q I r h
  obtain ⟨a, ns, rfl, hs, hne, q⟩ := h
  obtain ⟨its, rv, hl, _⟩ := I.tuple hs
  rw [Vals.ref1 r]
  exact min_rawT (I.ok.hd hc) hl rv.ints hne fun h' tk m t' hk h1 h2 => ⟨.int _, H, I.kept hk, ⟨_, rfl⟩, q m h1 h2⟩
end
end Dl

namespace Dl
open PySem PySem.Spec PyProof.Rows L2

/-! ### sorted(tuple) -/
section
variable {prog : Program} {w : World} {A : Around} {E : Value → Shared → Prop} {s : Shared}
/-- sorted of any sequence that collect takes: behind the collected items a sorted list of them, somewhere new -/
theorem sorted_tupI {l : Addr} {vs : List Value} {ns : List Int} {Q : Value → Shared → Prop} (hl : s.heap.IsTuple l vs.toArray) (hz : vs.length ≤ sizeLine) (hi : IntsAre vs ns)
    (h : ∀ (h1 h2 : Heap) (out : List Value) (ep : Nat), (∀ b o, s.heap.get? b = some o → h1.get? b = some o) → (∀ b o, h1.get? b = some o → h2.get? b = some o) →
      h2.get? h1.objs.size = some { cls := .type "list", data := .seq out.toArray ep } → (out.map SrtO.iv).Perm ns → (out.map SrtO.iv).Pairwise (· ≤ ·) → IntsAre out (out.map SrtO.iv) → Q (.ref h1.objs.size) { s with heap := h2 }) :
    wpAny (model prog w) A (call (.builtin "sorted") [.ref l]) Q E s := by
  obtain ⟨o, ho, hc, n, hd⟩ := id hl
  refine Calls.call_function_entry kind_sorted plain_sorted entry_sorted (args_sorted1 _) ?_
  unfold Builtin.«sorted»
  refine wpAny_bind (m := checkCount "sorted" 1 1 _) (wpAny_pure ?_)
  refine wpAny_bind (wpAny_collect_seq l (.inr rfl) ho hc hd (fun h1 k1 => ?_) (by rw [List.size_toArray]; exact hz))
  refine wpAny_bind (wpAny_newList ?_ hz)
  have hoL : (h1.push (seqObj "list" vs.toArray 0)).get? h1.objs.size = some (seqObj "list" vs.toArray 0) := Heap.get?_push_size _ rfl
  refine wpAny_bind (wpAny_holding (wpAny_call_entry slot_list_sort ⟨_, hoL, rfl⟩ entry_list_sort (SrtO.list_sort_ord SrtO.swo_int hoL hz (fun h2 => SrtO.ints_sortable hi h2) fun out hs hb => ⟨_, rfl, ?_⟩) (args_list_sort _)))
  obtain ⟨ep, he'⟩ := sortedHeap_at (vs := vs) (out := out.toArray) hoL
  obtain ⟨k1', k2, k3⟩ := SrtO.ints_out hi hs hb
  exact wpAny_pure ⟨_, rfl, h h1 _ out ep k1 (fun b o q => by
    have hb : b < h1.objs.size := Heap.lt_size q
    rw [sortedHeap_old (Nat.ne_of_lt hb) (by rw [Heap.size_push]; exact Nat.lt_succ_of_lt hb)]
    exact Heap.get?_push_of_some _ q) he' k2 k3 k1'⟩
end
section
variable {X : Cx}
def rSortT2 (K : PySem.W.Frag) : List V → Hp → VK → Prop := fun vs H Q => ∃ (a : Addr) (ns : List Int), vs = [V.ref a] ∧ SqT K H a (ns.map V.int) ∧
  ∀ (ns' : List Int) (p : Addr), ns'.Perm ns → ns'.Pairwise (· ≤ ·) → H p = none → Q (.ref p) (upd H p (.lst (ns'.map V.int)))
theorem cr_sortT2 : CallR X (.builtin "sorted") (rSortT2 X.K) := by
  intro pins s σ H vs us Q I r h
  obtain ⟨a, ns, rfl, hs, q⟩ := h
  obtain ⟨its, rv, hl, hz⟩ := I.tuple hs
  rw [Vals.ref1 r]
  refine sorted_tupI hl (by rw [← rv.length]; exact hz) rv.ints fun h1 h2 out ep e1 e2 ho k2 k3 k1 => ?_
  have hlen : ((out.map SrtO.iv).map V.int).length ≤ sizeLine := by
    rw [List.length_map, k2.length_eq]
    rwa [List.length_map] at hz
  have I1 : Inv X pins σ H { s with heap := h1 } := I.kept (t' := s.toks) e1
  have I2 : Inv X pins σ (upd H h1.objs.size (.lst ((out.map SrtO.iv).map V.int))) { s with heap := h2 } := I1.laid (t' := s.toks) e2 (Nat.le_refl _) ⟨hlen, out, ep, vals_of_ints k1, ho⟩
  exact ⟨.ref h1.objs.size, _, I2, rfl, q _ _ k2 k3 (I1.hok.fresh (Nat.le_refl _))⟩
/-- sorted, min, max of lists and tuples of ints -/
def rSortA (K : PySem.W.Frag) : List V → Hp → VK → Prop := fun vs H Q => rSortedI K vs H Q ∨ rSortT2 K vs H Q
theorem call_sortA : CallR X (.builtin "sorted") (rSortA X.K) := CallR.or cr_sortedI cr_sortT2
def rMaxB (K : PySem.W.Frag) : List V → Hp → VK → Prop := fun vs H Q => rMaxA K vs H Q ∨ rMaxT K vs H Q
theorem call_maxB (hc : X.calm = true) : CallR X (.builtin "max") (rMaxB X.K) := CallR.or (call_maxA hc) (cr_maxT hc)
def rMinB (K : PySem.W.Frag) : List V → Hp → VK → Prop := fun vs H Q => (∃ i j : Int, vs = [.int i, .int j] ∧ Q (.int (if j < i then j else i)) H) ∨ rMinT K vs H Q
theorem call_minB (hc : X.calm = true) : CallR X (.builtin "min") (rMinB X.K) := CallR.or (call_min2 hc) (cr_minT hc)
end
section
variable {K : PySem.W.Frag} {o : Ow} {en : En} {te ta tb tc : TE} {d x y z : Dt} {ds es : List Dt} {t : TA} {a b : Int}
/-- a list in order -/
def srt (ns : List Int) : List Int := ns.mergeSort (fun i j => decide (i ≤ j))
theorem srt_perm (ns : List Int) : (srt ns).Perm ns := List.mergeSort_perm ns _
theorem srt_sorted (ns : List Int) : (srt ns).Pairwise (· ≤ ·) := by
  have h := List.pairwise_mergeSort (le := fun i j : Int => decide (i ≤ j)) (fun a b c h1 h2 => by
    have h1 := of_decide_eq_true h1
    have h2 := of_decide_eq_true h2
    exact decide_eq_true (Int.le_trans h1 h2)) (fun a b => by
    rcases Int.le_total a b with h | h
    · rw [decide_eq_true h]; rfl
    · rw [decide_eq_true h, Bool.or_true]) ns
  exact h.imp fun h => of_decide_eq_true h
theorem sorted_uniq : ∀ {xs ys : List Int}, xs.Perm ys → xs.Pairwise (· ≤ ·) → ys.Pairwise (· ≤ ·) → xs = ys
  | [], ys, p, _, _ => by rw [List.nil_perm.mp p]
  | x :: xs, [], p, _, _ => by cases List.perm_nil.mp p
  | x :: xs, y :: ys, p, h1, h2 => by
    obtain ⟨a1, b1⟩ := List.pairwise_cons.mp h1
    obtain ⟨a2, b2⟩ := List.pairwise_cons.mp h2
    have e : x = y := by
      refine Int.le_antisymm ?_ ?_
      · rcases List.mem_cons.mp (p.mem_iff.mpr (List.mem_cons_self (a := y) (l := ys))) with q | q
        · exact Int.le_of_eq q.symm
        · exact a1 y q
      · rcases List.mem_cons.mp (p.mem_iff.mp (List.mem_cons_self (a := x) (l := xs))) with q | q
        · exact Int.le_of_eq q.symm
        · exact a2 x q
    subst e
    rw [sorted_uniq (List.Perm.cons_inv p) b1 b2]
theorem srt_eq {xs ys : List Int} (p : ys.Perm xs) (h : ys.Pairwise (· ≤ ·)) : ys = srt xs := sorted_uniq (p.trans (srt_perm xs).symm) h (srt_sorted xs)
theorem ev_sorted {ns : List Int} (ha : EvB ta o en (L .int ns)) : EvN (tCB (rSortA K) (tCons ta tNil)) o en ((srt ns).map .int) := fun _ _ _ _ _ k Q q => by
  refine eb_cons ha eb_nil _ _ _ _ _ k _ fun vs F1 H1 g1 r1 => ?_
  cases r1 with
  | cons r1 r2 =>
    cases r2
    cases r1 with
    | lst h hs =>
      cases hs.ints
      refine .inl ⟨_, ns, rfl, .inl (.inl h), fun ns' p e1 e2 hp => ?_⟩
      rw [srt_eq e1 e2]
      exact q p _ F1 _ (g1.trans (Gr.own g1.fh hp)) (g1.hh.free hp) (g1.fh.free hp) upd_same (Dvs.of (fun i => .int i) _)
theorem ev_sortedK {ns : List Int} {k : Bool} (ha : EvB ta o en (S k .int ns)) : EvN (tCB (rSortA K) (tCons ta tNil)) o en ((srt ns).map .int) := by
  cases k with
  | false => exact ev_sorted ha
  | true =>
    intro _ _ _ _ _ k Q q
    refine eb_cons ha eb_nil _ _ _ _ _ k _ fun vs F1 H1 g1 r1 => ?_
    cases r1 with
    | cons r1 r2 =>
      cases r2
      cases r1 with
      | tup h hs =>
        cases hs.ints
        refine .inr ⟨_, ns, rfl, .inl (.inl h), fun ns' p e1 e2 hp => ?_⟩
        rw [srt_eq e1 e2]
        exact q p _ F1 _ (g1.trans (Gr.own g1.fh hp)) (g1.hh.free hp) (g1.fh.free hp) upd_same (Dvs.of (fun i => .int i) _)
theorem ev_maxL {ns : List Int} (ha : EvB ta o en (L .int ns)) (hn : ns ≠ []) : Ev (tCB (rMaxB K) (tCons ta tNil)) o en (.int (mx ns)) := fun _ _ _ _ _ k Q q =>
  ev_cb (r := rMaxB K) (eb_cons ha eb_nil) rfl (fun Q r q => by
    cases r with
    | cons r1 r2 =>
      cases r2
      cases r1 with
      | lst h hs =>
        cases hs.ints
        exact .inl (.inl ⟨_, ns, rfl, .inl (.inl h), List.length_pos_iff.mpr hn, fun m hm hle => by rw [mx_eq hm hle]; exact q _ (.int _)⟩)) _ _ _ _ _ k Q q
theorem ev_maxI (ha : EvB ta o en (.int a)) (hb : EvB tb o en (.int b)) : Ev (tCB (rMaxB K) (tCons ta (tCons tb tNil))) o en (.int (max a b)) := ev_cb (eb_cons ha (eb_cons hb eb_nil)) rfl fun Q r q => by
  cases r with
  | cons r1 r2 =>
    cases r2 with
    | cons r2 r3 =>
      cases r3
      cases r1
      cases r2
      have e : (if b > a then b else a) = max a b := by
        by_cases h : b > a
        · rw [if_pos h, Int.max_eq_right (by omega)]
        · rw [if_neg h, Int.max_eq_left (by omega)]
      exact .inl (.inr ⟨a, b, rfl, by rw [e]; exact q _ (.int _)⟩)
theorem ev_minI (ha : EvB ta o en (.int a)) (hb : EvB tb o en (.int b)) : Ev (tCB (rMinB K) (tCons ta (tCons tb tNil))) o en (.int (min a b)) := ev_cb (eb_cons ha (eb_cons hb eb_nil)) rfl fun Q r q => by
  cases r with
  | cons r1 r2 =>
    cases r2 with
    | cons r2 r3 =>
      cases r3
      cases r1
      cases r2
      have e : (if b < a then b else a) = min a b := by
        by_cases h : b < a
        · rw [if_pos h, Int.min_eq_right (by omega)]
        · rw [if_neg h, Int.min_eq_left (by omega)]
      exact .inl ⟨a, b, rfl, by rw [e]; exact q _ (.int _)⟩
/-- of a pair -/
theorem ev_maxT (ha : EvB ta o en (.tup [.int a, .int b])) : Ev (tCB (rMaxB K) (tCons ta tNil)) o en (.int (max a b)) := ev_cb (eb_cons ha eb_nil) rfl fun Q r q => by
  cases r with
  | cons r1 r2 =>
    cases r2
    cases r1 with
    | tup h hs =>
      have hs' : Dvs _ _ (([a, b] : List Int).map Dt.int) := hs
      cases hs'.ints
      refine .inr ⟨_, [a, b], rfl, .inl (.inl h), Nat.succ_pos _, fun m hm hle => ?_⟩
      have h1 := hle a (by simp)
      have h2 := hle b (by simp)
      have e : m = max a b := by
        rcases List.mem_cons.mp hm with e | hm
        · rw [e, Int.max_eq_left (by omega)]
        · rw [List.mem_singleton.mp hm, Int.max_eq_right (by have := List.mem_singleton.mp hm; omega)]
      rw [e]
      exact q _ (.int _)
theorem ev_minT (ha : EvB ta o en (.tup [.int a, .int b])) : Ev (tCB (rMinB K) (tCons ta tNil)) o en (.int (min a b)) := ev_cb (eb_cons ha eb_nil) rfl fun Q r q => by
  cases r with
  | cons r1 r2 =>
    cases r2
    cases r1 with
    | tup h hs =>
      have hs' : Dvs _ _ (([a, b] : List Int).map Dt.int) := hs
      cases hs'.ints
      refine .inr ⟨_, [a, b], rfl, .inl (.inl h), Nat.succ_pos _, fun m hm hle => ?_⟩
      have h1 := hle a (by simp)
      have h2 := hle b (by simp)
      have e : m = min a b := by
        rcases List.mem_cons.mp hm with e | hm
        · rw [e, Int.min_eq_left (by omega)]
        · rw [List.mem_singleton.mp hm, Int.min_eq_right (by have := List.mem_singleton.mp hm; omega)]
      rw [e]
      exact q _ (.int _)

/-! ### isinstance, list.index -/
/-- the built-in type of data -/
def Dt.tyn : Dt → Option String
  | .non => some "NoneType"
  | .bl _ => some "bool"
  | .int _ => some "int"
  | .str _ => some "str"
  | .lst _ => some "list"
  | .tup _ => some "tuple"
  | .obj _ _ => none
  | .scr _ _ => none
theorem Dv.ty {H : Hp} {v : V} {n : String} (h : Dv H v d) (e : d.tyn = some n) : TyX K H v (.type n) := by
  cases h <;> cases e
  · exact .base .non
  · exact .base (.bl _)
  · exact .base (.int _)
  · exact .base (.str _)
  · rename_i h _
    exact .base (.lst h)
  · rename_i h _
    exact .base (.tup h)
theorem ev_isi {n T : String} {r : Bool} (ha : EvB ta o en d) (e : d.tyn = some n) (hk : kitB n T = some r) : Ev (tCB (rIsi K) (tCons ta (tCons (tC (.ty T)) tNil))) o en (.bl r) := fun _ _ _ _ _ k Q q => by
  refine ha _ _ _ _ _ k _ fun v F1 H1 g1 r1 => ?_
  exact ⟨v, .ty T, .type n, .type T, r, rfl, .ty T, r1.ty e, kit_ty hk, q _ F1 H1 g1 (.bl r)⟩
theorem ev_index {ns : List Int} {n : Int} (hx : EvB ta o en (L .int ns)) (ha : EvB tb o en (.int n)) (hn : n ∈ ns) : Ev (tBM K "list" (rIndex K) ta (tCons tb tNil)) o en (.int (ns.idxOf n)) := fun _ _ _ _ _ k Q q => by
  refine hx _ _ _ _ _ k _ fun v F1 H1 g1 r1 => ?_
  cases r1 with
  | lst h hs =>
    refine ⟨.inl ⟨rfl, _, .inl (.inl h)⟩, ha _ _ _ _ _ (k.grow g1) _ fun w F2 H2 g2 r2 => ?_⟩
    cases r2
    cases hs.ints
    have hl : ns.idxOf n < ns.length := List.idxOf_lt_length_of_mem hn
    refine ⟨_, _, .int n, ns.idxOf n, .int n, rfl, rfl, .inl (.inl (g2.hh _ _ h)), rfl, flat_ints ns, ?_, ?_, fun m z' hm hz => ?_, q _ F2 H2 (g1.trans g2) (.int _)⟩
    · rw [List.getElem?_map, List.getElem?_eq_getElem hl, List.getElem_idxOf]
      rfl
    · show (n == n) = true
      exact beq_self_eq_true n
    · rw [List.getElem?_map] at hz
      cases e : ns[m]? with
      | none => rw [e] at hz; cases hz
      | some u =>
        rw [e] at hz
        have hz' : V.int u = z' := Option.some.inj hz
        subst hz'
        show (u == n) = false
        refine beq_eq_false_iff_ne.mpr fun z => ?_
        have hml : m < ns.length := (List.getElem?_eq_some_iff.mp e).1
        have hq : ns[m] = u := (List.getElem?_eq_some_iff.mp e).2
        have := List.not_of_lt_findIdx (show m < ns.findIdx (· == n) from hm)
        simp [hq, z] at this
end
end Dl

/-! Short words for the terms: calls of defs by one fact each, what is walked of any kind, built-ins by name. -/
namespace Dl
open PySem L2

/-! ### the built-ins -/
theorem b_len : bootBuiltins "len" = some (.builtin "len") := by decide +kernel
theorem b_list : bootBuiltins "list" = some (.type "list") := by decide +kernel
theorem b_tuple : bootBuiltins "tuple" = some (.type "tuple") := by decide +kernel
theorem b_int : bootBuiltins "int" = some (.type "int") := by decide +kernel
theorem b_bool : bootBuiltins "bool" = some (.type "bool") := by decide +kernel
theorem b_str : bootBuiltins "str" = some (.type "str") := by decide +kernel
theorem b_isinstance : bootBuiltins "isinstance" = some (.builtin "isinstance") := by decide +kernel
theorem b_max : bootBuiltins "max" = some (.builtin "max") := by decide +kernel
theorem b_min : bootBuiltins "min" = some (.builtin "min") := by decide +kernel
theorem b_sorted : bootBuiltins "sorted" = some (.builtin "sorted") := by decide +kernel
theorem b_all : bootBuiltins "all" = some (.builtin "all") := by decide +kernel
/-- the module's built-in names are the built-ins; its constants; its two classes, N and S -/
structure Gb (K : PySem.W.Frag) (mg : Str → Option Value) (N S : Addr) : Prop where
  len : mg "len" = none
  list : mg "list" = none
  tuple : mg "tuple" = none
  int : mg "int" = none
  bool : mg "bool" = none
  str : mg "str" = none
  isinstance : mg "isinstance" = none
  max : mg "max" = none
  min : mg "min" = none
  sorted : mg "sorted" = none
  all : mg "all" = none
  range : mg "range" = none
  enumerate : mg "enumerate" = none
  zip : mg "zip" = none
  reversed : mg "reversed" = none
  cBoxes : ∃ t, mg "MOST_BOXES" = some (.int 12 t)
  cArrows : ∃ t, mg "MOST_ARROWS" = some (.int 24 t)
  cLetters : ∃ t, mg "MOST_LETTERS" = some (.int 8 t)
  cAbc : ∃ t, mg "LETTERS" = some (.str "abcdefghijklmnopqrstuvwxyz" t)
  cLast : ∃ t, mg "LAST_ROW" = some (.int 11 t)
  clN : Cls K N
  clS : Cls K S
  nNames : NoAttr K N "box_names"
  nArrows : NoAttr K N "own_arrows"
  sNet : NoAttr K S "drawn_net"
  sTurned : NoAttr K S "turned_arrows"
  sRows : NoAttr K S "node_rows"
  sArrows : NoAttr K S "node_arrows"
  sWays : NoAttr K S "ways"

section
variable {X : Cx} {e o : Expr} {es : List Expr} {ta te : TE} {t : TA} {x m : Str} {p pos apos : Pos} {lv : Nat} {sp : Sp} {ps : List Str} {C : Addr}
theorem pe_globI {i : Int} (h : ∃ t, X.mg x = some (.int i t)) (hg : Gl X x) (hdb : (x == ("__debug__" : Str)) = false := by decide) : PE X (.Name x pos) (tC (.int i)) := by
  obtain ⟨t, h⟩ := h
  exact pe_glob hg h ⟨t, rfl⟩ hdb
theorem pe_globS {i : Str} (h : ∃ t, X.mg x = some (.str i t)) (hg : Gl X x) (hdb : (x == ("__debug__" : Str)) = false := by decide) : PE X (.Name x pos) (tC (.str i)) := by
  obtain ⟨t, h⟩ := h
  exact pe_glob hg h ⟨t, rfl⟩ hdb

/-! ### defs -/
def Cal (P : Program) (w : World) (K : PySem.W.Frag) (mg : Str → Option Value) (base : Heap) (x : Str) (ps : List Str) (lv : Nat) (sp : Sp) : Prop :=
  ∃ (f : Addr) (fd : FuncData), FnOk P w K mg base CX0 lv f fd ps sp ∧ mg x = some (.ref f) ∧ PySem.W.keepIn K (.ref f) = true ∧ Binds K fd ps []
def CalM (P : Program) (w : World) (K : PySem.W.Frag) (mg : Str → Option Value) (base : Heap) (C : Addr) (m : Str) (ps : List Str) (lv : Nat) (sp : Sp) : Prop :=
  ∃ (f : Addr) (fd : FuncData), FnOk P w K mg base CX0 lv f fd ps sp ∧ Meth K C m f ∧ Binds K fd ps []
def CalC (P : Program) (w : World) (K : PySem.W.Frag) (mg : Str → Option Value) (base : Heap) (C : Addr) (x : Str) (ps : List Str) (lv : Nat) (sp : Sp) : Prop :=
  ∃ (f : Addr) (fd : FuncData), FnOk P w K mg base CX0 lv f fd ps sp ∧ Mk K C f ∧ mg x = some (.ref C) ∧ Binds K fd ps []
theorem pe_callC (c : Cal X.prog X.w X.K X.mg X.base x ps lv sp) (hr : Room lv X.A) (hg : Gl X x) (ha : PA X (e :: es) t)
    (hdb : (x == ("__debug__" : Str)) = false := by decide) (he : starEach (e :: es) X.env = (false, eval e X.env) :: starEach es X.env := by rfl) (hpl : (backTo pos (starEach es X.env)).any (·.1) = false := by rfl) :
    PE X (.Call (.Name x p) (e :: es) [] pos) (tCall sp [] E0 t) := by
  obtain ⟨f, fd, F, hm, hk, hb⟩ := c
  exact pe_call F hr hg hm hk hb .nil pass0 ha hdb he hpl
theorem pe_makeC (c : CalC X.prog X.w X.K X.mg X.base C x ps lv sp) (hr : Room (lv + 1) X.A) (hg : Gl X x) (ha : PA X (e :: es) t)
    (hdb : (x == ("__debug__" : Str)) = false := by decide) (he : starEach (e :: es) X.env = (false, eval e X.env) :: starEach es X.env := by rfl) (hpl : (backTo pos (starEach es X.env)).any (·.1) = false := by rfl) :
    PE X (.Call (.Name x p) (e :: es) [] pos) (tMake C sp [] E0 t) := by
  obtain ⟨f, fd, F, M, hm, hb⟩ := c
  exact pe_make M F hr hg hm hb .nil pass0 ha hdb he hpl
theorem pe_methC {pl : Sem Bool} (c : CalM X.prog X.w X.K X.mg X.base C m ps lv sp) (cl : Cls X.K C) (hr : Room lv X.A) (ho : PE X o ta) (ha : PA X (e :: es) t)
    (hst : starEach (e :: es) X.env = (false, eval e X.env) :: starEach es X.env := by rfl) (hpl : (backTo pos (starEach es X.env)).any (·.1) = false := by rfl)
    (ht : eval (.Call (.Attribute o m apos) (e :: es) [] pos) X.env = (do
      let ov ← eval o X.env
      standAt apos.atName
      let (f, first) ← holding [ov] (getMethod ov m pl)
      callWith pos f first (backTo pos (starEach (e :: es) X.env)) (backToKw pos (keywordEach [] X.env))) := by rfl) :
    PE X (.Call (.Attribute o m apos) (e :: es) [] pos) (tMeth C m sp [] E0 ta t) := by
  obtain ⟨f, fd, F, hm, hb⟩ := c
  exact pe_meth ho cl hm F hr hb .nil pass0 ha hst hpl ht
theorem pe_methC0 {pl : Sem Bool} (c : CalM X.prog X.w X.K X.mg X.base C m ps lv sp) (cl : Cls X.K C) (hr : Room lv X.A) (ho : PE X o ta)
    (ht : eval (.Call (.Attribute o m apos) [] [] pos) X.env = (do
      let ov ← eval o X.env
      standAt apos.atName
      let (f, first) ← holding [ov] (getMethod ov m pl)
      callWith pos f first (backTo pos (starEach [] X.env)) (backToKw pos (keywordEach [] X.env))) := by rfl) :
    PE X (.Call (.Attribute o m apos) [] [] pos) (tMeth C m sp [] E0 ta tNil) := by
  obtain ⟨f, fd, F, hm, hb⟩ := c
  exact pe_meth0 ho cl hm F hr hb .nil pass0 ht
theorem Room.u65 {k : Nat} {A : Around} (r : Room k A) : A.units + 65 < cLine := by have := r.un; omega
end

/-! ### the rules that speak of what the top has written, that part by name (within a comprehension the context is another) -/
section
variable {X : Cx} {K : PySem.W.Frag}
theorem ixK (h : X.K = K) : IxR X (rIx K) := h ▸ ix_seq
theorem slK (h : X.K = K) : SlR X (rSlX K) := h ▸ sl_any
theorem eqK (h : X.K = K) (hu : X.A.units + 64 < cLine) : OpR X (compareOp .Eq) (rEqD K) := h ▸ op_eqD hu
theorem neK (h : X.K = K) (hu : X.A.units + 64 < cLine) : OpR X (compareOp .NotEq) (rNeD K) := h ▸ op_neD hu
theorem inK (h : X.K = K) (hu : X.A.units + 65 < cLine) : OpR X (compareOp .In) (rInA K) := h ▸ op_inA hu
theorem notInK (h : X.K = K) (hu : X.A.units + 65 < cLine) : OpR X (compareOp .NotIn) (rNotInA K) := h ▸ op_notInA hu
theorem lenK (h : X.K = K) : CallR X (.builtin "len") (rLenA K) := h ▸ call_lenA
theorem listK (h : X.K = K) : CallR X (.type "list") (rListA K) := h ▸ call_listA
theorem tupK (h : X.K = K) : CallR X (.type "tuple") (rTupA K) := h ▸ call_tupA
theorem isiK (h : X.K = K) : CallR X (.builtin "isinstance") (rIsi K) := h ▸ call_isi
theorem sortK (h : X.K = K) : CallR X (.builtin "sorted") (rSortA K) := h ▸ call_sortA
theorem allK (h : X.K = K) (hc : X.calm = true) : CallR X (.builtin "all") (rAll K) := h ▸ cr_all hc
theorem maxK (h : X.K = K) (hc : X.calm = true) : CallR X (.builtin "max") (rMaxB K) := h ▸ call_maxB hc
theorem minK (h : X.K = K) (hc : X.calm = true) : CallR X (.builtin "min") (rMinB K) := h ▸ call_minB hc
theorem indexK (h : X.K = K) : MtR X "list.index" (rIndex K) := h ▸ mt_index
theorem pg_tupK {es : List Expr} {k : Nat} {t : TGs} {n : Nat} {pos : Pos} (hK : X.K = K) (hc : X.calm = true) (h : PGs X es t) (hn : (assignEach es X.env).length = n := by rfl) (hst : (assignEach es X.env).findIdx? (·.1) = none := by rfl) :
    PG X (.Tuple es k pos) (gTup K n t) := hK ▸ pg_tup hc h hn hst
theorem pe_bmK {T id : String} {name : Str} {o e : Expr} {es : List Expr} {r : V → List V → Hp → VK → Prop} {to : TE} {t : TA} {apos cpos : Pos} (hK : X.K = K)
    (pa : PlainAttrs T) (slot : Slot T name id) (hty : typeOf (.builtin id) = pure (.type "method_descriptor")) (hm : MtR X id r) (ho : PE X o to) (ha : PA X (e :: es) t)
    (hbase : attributeBase o name X.env (eval o X.env) = eval o X.env := by rfl)
    (hfew : ((backTo cpos (starEach (e :: es) X.env)).all (fun x => !x.1) && (backToKw cpos (keywordEach [] X.env)).all (fun x => x.1.isSome)
      && decide ((e :: es).length + ([] : List Keyword).length + (if ([] : List Keyword).isEmpty then 0 else 1) < 30)) = true := by rfl)
    (hline : (apos.endLine == cpos.line) = true := by rfl) (hs : starEach (e :: es) X.env = (false, eval e X.env) :: starEach es X.env := by rfl) (hplain : (backTo cpos (starEach es X.env)).any (·.1) = false := by rfl) :
    PE X (.Call (.Attribute o name apos) (e :: es) [] cpos) (tBM K T r to t) := hK ▸ pe_bm pa slot hty hm ho ha hbase hfew hline hs hplain
end

/-! ### what is walked -/
section
variable {X : Cx} {tg e : Expr} {w1 w2 : TI} {te : TE} {t : TA} {p pos tpos : Pos} {elts : List Expr} {kk : Nat}
theorem pi_or (h : PI X tg e w1) (h' : PI X tg e w2) : PI X tg e (fun σ H R => w1 σ H R ∨ w2 σ H R) := ⟨fun pins s σ H R I q => q.elim (h.run pins s σ H R I) (h'.run pins s σ H R I)⟩
def iAny (K : PySem.W.Frag) (te : TE) : TI := fun σ H R => iList K te σ H R ∨ (iTup K te σ H R ∨ iStr te σ H R)
theorem pi_any (h : PE X e te) : PI X tg e (iAny X.K te) := pi_or (pi_list h) (pi_or (pi_tup h) (pi_str h))
def iEnumA (K : PySem.W.Frag) (t : TA) : TI := fun σ H R => iEnum K t σ H R ∨ iEnumT K t σ H R
theorem pi_enumA (hg : Gl X "enumerate") (hm : X.mg "enumerate" = none) (ha : PA X [e] t) (hs : starEach [e] X.env = [(false, eval e X.env)] := by rfl) : PI X (.Tuple elts kk tpos) (.Call (.Name "enumerate" p) [e] [] pos) (iEnumA X.K t) :=
  pi_or (pi_enum hg hm ha hs) (pi_enumT hg hm ha hs)
end
section
variable {K : PySem.W.Frag} {o : Ow} {en : En} {te ta tb tc : TE} {d x y z : Dt} {ds es : List Dt} {t : TA} {a b : Int}
theorem yl_enumT {F : Hp} {p : Addr} {xs : List V} (h : F p = some (.tup xs)) (hs : Dvs F xs ds) : Yields (IteT K p) F (enumD ds) := fun F1 H1 e1 e2 i => by
  have q : SqT K H1 p xs := .inl (.inl (e2 _ _ (e1 _ _ h)))
  refine ⟨fun d hd => ?_, fun hl => ⟨xs, q, by unfold enumD at hl; rw [List.length_mapIdx] at hl; rw [hs.length]; exact hl⟩⟩
  unfold enumD at hd
  rw [List.getElem?_mapIdx] at hd
  cases e : ds[i]? with
  | none => rw [e] at hd; cases hd
  | some c =>
    rw [e] at hd
    have hd' : Dt.tup [.int (i : Nat), c] = d := Option.some.inj hd
    obtain ⟨v, hv, r⟩ := hs.get e
    refine ⟨⟨xs, v, q, hv⟩, fun x H2 hy => ?_⟩
    obtain ⟨T, x', rfl, nT, rfl, hx⟩ := hy
    have e' : v = x' := Option.some.inj (hv.symm.trans (hx xs q))
    subst e'
    rw [← hd']
    exact ⟨_, Gr.new e2 nT, .tup upd_same (.cons (.int _) (.one ((r.mono e1).mono (same_new (e2.free nT)))))⟩
theorem it_list (h : Ev te o en (.lst ds)) : Itd (iAny K te) o en ds := fun F0 H0 F σ H k R q => .inl (itd_list h F0 H0 F σ H k R q)
theorem it_tup (h : Ev te o en (.tup ds)) : Itd (iAny K te) o en ds := fun F0 H0 F σ H k R q => .inr (.inl (itd_tup h F0 H0 F σ H k R q))
theorem it_str {w : Str} (h : EvB te o en (.str w)) : Itd (iAny K te) o en (signsD w) := fun F0 H0 F σ H k R q => .inr (.inr (itd_str h F0 H0 F σ H k R q))
theorem it_enum (h : Ev ta o en (.lst ds)) : Itd (iEnumA K (tCons ta tNil)) o en (enumD ds) := fun F0 H0 F σ H k R q => .inl (itd_enum h F0 H0 F σ H k R q)
theorem it_enumT (h : Ev ta o en (.tup ds)) : Itd (iEnumA K (tCons ta tNil)) o en (enumD ds) := fun F0 H0 F σ H k R q => .inr (by
  refine ea_cons h ea_nil _ _ _ _ _ k _ fun vs F1 H1 g1 r1 => ?_
  cases r1 with
  | cons r1 r2 =>
    cases r2
    cases r1 with
    | tup h hs => exact ⟨_, _, rfl, .inl (.inl (g1.fh _ _ h)), q _ F1 H1 g1 (yl_enumT h hs)⟩)
section
variable {α β : Type} {f : α → Dt} {g : β → Dt} {us : List α} {vs : List β} {k : Bool}
/-- i, x -/
def E2 (f : α → Dt) (p : Nat × α) : Dt := .tup [.int (p.1 : Nat), f p.2]
def enumL (us : List α) : List (Nat × α) := us.zipIdx.map fun p => (p.2, p.1)
theorem enumD_map (us : List α) : enumD (us.map f) = (enumL us).map (E2 f) := by
  unfold enumD enumL
  refine List.ext_getElem? fun i => ?_
  rw [List.getElem?_mapIdx, List.getElem?_map, List.getElem?_map, List.getElem?_map, List.getElem?_zipIdx]
  cases us[i]? with
  | none => rfl
  | some u =>
    show some (Dt.tup [.int (i : Nat), f u]) = some (E2 f (0 + i, u))
    rw [Nat.zero_add]
    rfl
theorem it_L (h : Ev te o en (L f us)) : Itd (iAny K te) o en (us.map f) := it_list h
theorem it_S (h : Ev te o en (S k f us)) : Itd (iAny K te) o en (us.map f) := by
  cases k with
  | false => exact it_list h
  | true => exact it_tup h
theorem it_enumL (h : Ev ta o en (L f us)) : Itd (iEnumA K (tCons ta tNil)) o en ((enumL us).map (E2 f)) := (it_enum h).to (enumD_map us)
theorem it_enumS (h : Ev ta o en (S k f us)) : Itd (iEnumA K (tCons ta tNil)) o en ((enumL us).map (E2 f)) := by
  cases k with
  | false => exact it_enumL h
  | true => exact (it_enumT h).to (enumD_map us)
theorem it_zipL (h : Ev ta o en (L f us)) (h' : Ev tb o en (L g vs)) : Itd (iZip K (tCons ta (tCons tb tNil))) o en ((us.zip vs).map (T2 f g)) := (itd_zip h h').to (by
  unfold zipD
  rw [List.zipWith_map, List.zip_eq_zipWith, List.map_zipWith]
  rfl)
end
end
end Dl

namespace Dl
open PySem L2
theorem nd_t {p : Prop} {i : Decidable p} (h : (!@decide p i) = true) : ¬ p := fun z => by
  rw [decide_eq_true z] at h
  cases h
theorem nd_f {p : Prop} {i : Decidable p} (h : (!@decide p i) = false) : p := by
  cases i with
  | isTrue z => exact z
  | isFalse z => cases h
theorem dec_f {p : Prop} {i : Decidable p} (h : ¬ p) : @decide p i = false := by
  cases i with
  | isTrue z => exact absurd z h
  | isFalse z => rfl
theorem dec_t {p : Prop} {i : Decidable p} (h : p) : @decide p i = true := by
  cases i with
  | isTrue z => rfl
  | isFalse z => exact absurd h z
theorem cpow_mk {i j : Int} (h : 0 ≤ j) (h1 : j ≤ 1000000) (h2 : i.natAbs < 2 ^ 64) : CPow i j := ⟨h, h1, h2⟩
theorem cdiv_mk {i j : Int} (h : 0 < j) (h1 : j.natAbs.log2 < 9000) : CDivW i j := ⟨h, h1⟩
theorem cmul_l {i j : Int} (h : -(2 ^ 64) < i) (h1 : i < 2 ^ 64) : CMul i j := .inl ⟨h, h1⟩
theorem cmul_r {i j : Int} (h : -(2 ^ 64) < j) (h1 : j < 2 ^ 64) : CMul i j := .inr ⟨h, h1⟩
theorem nin {o : Ow} {i : Nat} (h : o.sl.contains i = false) : i ∉ o.sl := fun q => by
  rw [List.contains_iff_mem.mpr q] at h
  cases h
section
variable {K : PySem.W.Frag} {o o1 o2 : Ow} {en en1 en2 : En} {te ta tb tc : TE} {d x y z : Dt} {ds es : List Dt} {tt tu : TT} {i : Nat} {t : TA} {t1 t2 t3 : TS} {r : Ret} {a b : Int} {g : TG} {js : List Nat}
/-- i = e; .. -/
theorem blk_set (h : Ev te o en d) (h2 : Blk t2 o (en.set i (some d)) r) (hi : o.sl.contains i = false := by rfl) : Blk (tSeq (tAsg te (gName i)) t2) o en r := blk_seq (sd_set h (nin hi)) h2
theorem blk_setE (x : Dt) (h : Ev te o en d) (e : d = x) (h2 : Blk t2 o (en.set i (some x)) r) (hi : o.sl.contains i = false := by rfl) : Blk (tSeq (tAsg te (gName i)) t2) o en r := blk_set (h.to e) h2 hi
theorem blk_new (h : EvN te noO en ds) (h2 : Blk t2 (ol i ds) (en.set i none) r) (hi : Nat.blt i en.length = true := by rfl) : Blk (tSeq (tAsg te (gName i)) t2) noO en r := blk_seq (sd_new h (Nat.le_of_ble_eq_true hi)) h2
theorem sds_set (h : Ev te o en d) (h2 : Sd t2 o (en.set i (some d)) o1 en1) (hi : o.sl.contains i = false := by rfl) : Sd (tSeq (tAsg te (gName i)) t2) o en o1 en1 := sd_seq (sd_set h (nin hi)) h2
theorem sds_setE (x : Dt) (h : Ev te o en d) (e : d = x) (h2 : Sd t2 o (en.set i (some x)) o1 en1) (hi : o.sl.contains i = false := by rfl) : Sd (tSeq (tAsg te (gName i)) t2) o en o1 en1 := sds_set (h.to e) h2 hi
/-- i = e, the last; what is known behind it -/
theorem sd1_set (x : Dt) (h : Ev te o en d) (e : d = x) (l : LeE en1 (en.set i (some x))) (hi : o.sl.contains i = false := by rfl) : Sd (tAsg te (gName i)) o en o en1 := (sd_set (h.to e) (nin hi)).weak l
/-- xs.append(e), the last -/
theorem sd1_app {us : List Dt} (h : Ev te (ol i ds) en d) (e : ds ++ [d] = us) (l : LeE en1 en) (hl : ds.length < 100000) : Sd (tDrop (tBM K "list" rAppend (tVar i) (tCons te tNil))) (ol i ds) en (ol i us) en1 := by
  subst e
  exact (sd_app h hl).weak l
theorem sd1_ext {us : List Dt} (h : Ev te (ol i ds) en (.lst es)) (e : ds ++ es = us) (l : LeE en1 en) (hl : ds.length + es.length ≤ 100000) : Sd (tDrop (tBM K "list" rExtend (tVar i) (tCons te tNil))) (ol i ds) en (ol i us) en1 := by
  subst e
  exact (sd_ext h hl).weak l
/-- if c: (return ..); what follows -/
theorem blk_ifr {c : Bool} (hc : EvT tt o en c) (h1 : c = true → Blk t1 o en r) (h2 : c = false → Blk t3 o en r) : Blk (tSeq (tIfS tt t1 tNext) t3) o en r := blk_if hc (fun e => blk_seqL (h1 e)) fun e => h2 e
theorem Blk.weak (h : Blk t1 o en r) (l : LeE en en1) : Blk t1 o en1 r := fun D F0 H0 F σ H k q => h D F0 H0 F σ H (k.weak l) q
/-- xs[a] = e in an own list of ints -/
theorem sd1_setI {s s' : List Int} {v a : Int} (h : Ev te (ol i (s.map Dt.int)) en (.int v)) (hb : EvB tb (ol i (s.map Dt.int)) en (.int a)) (h0 : 0 ≤ a) (h1 : a < (s.length : Int)) (e : s.set a.toNat v = s') (l : LeE en1 en) :
    Sd (tAsg te (gSub (tVar i) tb rSetL)) (ol i (s.map Dt.int)) en (ol i (s'.map Dt.int)) en1 := by
  subst e
  have hj : ixN (s.map Dt.int).length a = some a.toNat := by
    unfold ixN
    rw [if_pos h0, List.length_map, if_pos h1]
  have q := (sd_setItem h hb hj).weak l
  rw [List.map_set]
  exact q
def Dt.isN : Dt → Bool
  | .non => true
  | _ => false
theorem Dv.isN {H : Hp} {v : V} (h : Dv H v d) : decide (v = V.non) = d.isN := by cases h <;> rfl
theorem et_notN (h : EvB te o en d) (b : Bool) (hb : (!d.isN) = b) : EvT (tTest (tOp rNotN te (tC .non))) o en b := et_test (Ev.b (ev_op2 h (Ev.b ev_non) rfl fun Q r s q => by
  cases s
  refine ⟨rfl, ?_⟩
  rw [r.isN, hb]
  exact q _ (.bl b)))
theorem et_isN (h : EvB te o en d) (b : Bool) (hb : d.isN = b) : EvT (tTest (tOp rIsN te (tC .non))) o en b := et_test (Ev.b (ev_op2 h (Ev.b ev_non) rfl fun Q r s q => by
  cases s
  refine ⟨rfl, ?_⟩
  rw [r.isN, hb]
  exact q _ (.bl b)))

/-! ### what == and in take -/
def Can {α : Type} (f : α → Dt) : Prop := ∀ x, (f x).py.canLay0 = true
theorem can_int : Can Dt.int := fun x => by simp [Dt.py, PyData.canLay0]
theorem can_O : Can O := fun x => by cases x <;> simp [O, Dt.py, PyData.canLay0]
theorem can_pys {α : Type} {f : α → Dt} : ∀ xs : List α, (∀ x ∈ xs, (f x).py.canLay0 = true) → PyData.canLayAll0 (Dt.pys (xs.map f)) = true
  | [], _ => by simp [Dt.pys, PyData.canLayAll0]
  | x :: xs, h => by
    rw [List.map_cons]
    show PyData.canLayAll0 ((f x).py :: Dt.pys (xs.map f)) = true
    rw [PyData.canLayAll0, h x List.mem_cons_self, can_pys xs fun y hy => h y (List.mem_cons_of_mem _ hy)]
    rfl
theorem can_L {α : Type} {f : α → Dt} (h : Can f) : Can (L f) := fun xs => by
  show PyData.canLay0 (.list (Dt.pys (xs.map f))) = true
  rw [PyData.canLay0]
  exact can_pys xs fun x _ => h x
theorem can_T2 {α β : Type} {f : α → Dt} {g : β → Dt} (h : Can f) (h' : Can g) : Can (T2 f g) := fun p => by
  show PyData.canLay0 (.tuple [(f p.1).py, (g p.2).py]) = true
  rw [PyData.canLay0, PyData.canLayAll0, PyData.canLayAll0, PyData.canLayAll0, h, h']
  rfl
theorem lay_of {α : Type} [DecidableEq α] {f : α → Dt} {n : Nat} (h : Enc f n) {u : α} (hl : (f u).py.canLay0 = true) (hn : n ≤ 64) : Lay (f u) := ⟨h.pu u, by
  show ((f u).py.canLay0 && decide ((f u).py.depth ≤ 64)) = true
  rw [hl, decide_eq_true (Nat.le_trans (h.dep u) hn)]
  rfl⟩
theorem enc_str : Enc Dt.str 0 := ⟨fun _ => rfl, fun _ => by simp [Dt.py, PyData.depth], fun x y => by
  show (x == y) = decide (x = y)
  rfl⟩
/-- a text's signs are signs -/
def SOk (x : Str) : Prop := ∀ c ∈ x.cps.toList, c < 1114112
theorem can_str {x : Str} (h : SOk x) : (Dt.str x).py.canLay0 = true := by
  show PyData.canLay0 (.str x) = true
  rw [PyData.canLay0]
  unfold PyData.strOk
  rw [Array.all_eq_true']
  intro c hc
  exact decide_eq_true (h c (Array.mem_toList_iff.mpr hc))
theorem can_strs {xs : List Str} (h : ∀ x ∈ xs, SOk x) : (L Dt.str xs).py.canLay0 = true := by
  show PyData.canLay0 (.list (Dt.pys (xs.map Dt.str))) = true
  rw [PyData.canLay0]
  exact can_pys xs fun x hx => can_str (h x hx)
abbrev PR : Int × Int → Dt := T2 .int .int
theorem enc_PR : Enc PR 1 := enc_T2 enc_int enc_int
theorem can_PR : Can PR := can_T2 can_int can_int
theorem lay_int {i : Int} : Lay (.int i) := lay_of enc_int (can_int i) (by decide)
theorem lay_O {i : Option Int} : Lay (O i) := lay_of enc_O (can_O i) (by decide)
theorem lay_PR {p : Int × Int} : Lay (PR p) := lay_of enc_PR (can_PR p) (by decide)
theorem lay_ints {ns : List Int} : Lay (L .int ns) := lay_of (enc_L enc_int) (can_L can_int ns) (by decide)
theorem lay_Os {ns : List (Option Int)} : Lay (L O ns) := lay_of (enc_L enc_O) (can_L can_O ns) (by decide)
theorem lay_PRs {ns : List (Int × Int)} : Lay (L PR ns) := lay_of (enc_L enc_PR) (can_L can_PR ns) (by decide)
theorem lay_iss {ns : List (List Int)} : Lay (L (L .int) ns) := lay_of (enc_L (enc_L enc_int)) (can_L (can_L can_int) ns) (by decide)
theorem lay_str {x : Str} (h : SOk x) : Lay (.str x) := lay_of enc_str (can_str h) (by decide)
theorem lay_strs {xs : List Str} (h : ∀ x ∈ xs, SOk x) : Lay (L .str xs) := lay_of (enc_L enc_str) (can_strs h) (by decide)
/-- items of a pair -/
theorem ev_fst {α β : Type} {f : α → Dt} {g' : β → Dt} {p : α × β} (ha : Ev ta o en (T2 f g' p)) : Ev (tOp (rIx K) ta (tC (.int 0))) o en (f p.1) := ev_ixT ha (Ev.b ev_int) rfl
theorem ev_snd {α β : Type} {f : α → Dt} {g' : β → Dt} {p : α × β} (ha : Ev ta o en (T2 f g' p)) : Ev (tOp (rIx K) ta (tC (.int 1))) o en (g' p.2) := ev_ixT ha (Ev.b ev_int) rfl
/-- a pair's display -/
theorem ev_pair {α β : Type} {f : α → Dt} {g' : β → Dt} {u : α} {v : β} (ha : Ev ta o en (f u)) (hb : Ev tb o en (g' v)) : Ev (tTup (tCons ta (tCons tb tNil))) o en (T2 f g' (u, v)) := ev_tup (ea_cons ha (ea_cons hb ea_nil))

theorem EvA.to (h : EvA t o en ds) (e : ds = es) : EvA t o en es := e ▸ h
theorem EvAB.to (h : EvAB t o en ds) (e : ds = es) : EvAB t o en es := e ▸ h

/-! ### loops as folds -/
theorem sd_fold {α β : Type} {wi : TI} {tb : TS} {xs : List α} {f : α → Dt} (step : β → α → β) (s0 : β) (so : β → Ow) (se : β → En) (hi : Itd wi o en (xs.map f)) (h0 : so s0 = o) (e0 : LeE (se s0) en)
    (body : ∀ (i : Nat) (x : α), xs[i]? = some x → ∀ s, s = (xs.take i).foldl step s0 → ∃ en1 js, Tg g (f x) (so s) (se s) en1 js ∧ Sd tb (so s) en1 (so (step s x)) (se (step s x))) :
    Sd (tFor wi g tb) o en (so (xs.foldl step s0)) (se (xs.foldl step s0)) := by
  have h := sd_for (tb := tb) (g := g) hi (fun i => so ((xs.take i).foldl step s0)) (fun i => se ((xs.take i).foldl step s0)) h0 e0 (fun i d hd => by
    rw [List.getElem?_map] at hd
    cases q : xs[i]? with
    | none => rw [q] at hd; cases hd
    | some x =>
      rw [q] at hd
      cases hd
      obtain ⟨en1, js, h1, h2⟩ := body i x q _ rfl
      refine ⟨en1, js, h1, ?_⟩
      have e : (xs.take (i + 1)).foldl step s0 = step ((xs.take i).foldl step s0) x := by
        rw [List.take_add_one, q, List.foldl_append]
        rfl
      rw [e]
      exact h2)
  rw [List.length_map, List.take_length] at h
  exact h
def I0 (i : Nat) : Dt := .int (i : Nat)
theorem rangeD0 (n : Nat) : rangeD 0 n = (List.range n).map I0 := by
  unfold rangeD I0
  refine List.map_congr_left fun i _ => ?_
  rw [Int.zero_add]
theorem it_rng (h : EvB ta o en (.int a)) (h1 : a ≤ 1000000) (h0 : -1000000 ≤ a) : Itd (iRng1 (tCons ta tNil)) o en ((List.range a.toNat).map I0) := (itd_rng1 h h0 h1).to (rangeD0 _)
theorem it_rng2 (h : EvB ta o en (.int a)) (h' : EvB tb o en (.int b)) (h0 : -1000000 ≤ a) (h1 : a ≤ 1000000) (h2 : -1000000 ≤ b) (h3 : b ≤ 1000000) : Itd (iRng2 (tCons ta (tCons tb tNil))) o en ((List.range (b - a).toNat).map fun i : Nat => Dt.int (a + (i : Nat))) := itd_rng2 h h' h0 h1 h2 h3
theorem get_range {n i x : Nat} (h : (List.range n)[i]? = some x) : i < n ∧ x = i := by
  have q := List.getElem?_eq_some_iff.mp h
  obtain ⟨h1, h2⟩ := q
  rw [List.length_range] at h1
  rw [List.getElem_range] at h2
  exact ⟨h1, h2.symm⟩
end
end Dl

namespace Dl
open PySem L2
section
variable {K : PySem.W.Frag} {o o1 o2 : Ow} {en en1 en2 : En} {te ta tb tc : TE} {d x y z : Dt} {ds es : List Dt} {tt tu : TT} {i : Nat} {t : TA} {t1 t2 t3 : TS} {r : Ret} {a b : Int} {g : TG} {js : List Nat}
/-! ### list(range(..)) -/
theorem rg_dvs {F : Hp} {lo hi : Int} : Dvs F (rgV lo hi) (rangeD lo (hi - lo).toNat) := by
  unfold rgV rangeD
  generalize List.range (hi - lo).toNat = l
  induction l with
  | nil => exact .nil
  | cons k l ih => exact .cons (.int _) ih
theorem evn_rg2 (ha : EvB ta o en (.int a)) (hb : EvB tb o en (.int b)) (h0 : -100000 ≤ a) (h1 : a ≤ 100000) (h2 : -100000 ≤ b) (h3 : b ≤ 100000) : EvN (tLstRg (tRg2 ta tb)) o en (rangeD a (b - a).toNat) := fun _ _ _ _ _ k Q q => by
  refine ha _ _ _ _ _ k _ fun v F1 H1 g1 r1 => ?_
  refine hb _ _ _ _ _ (k.grow g1) _ fun w F2 H2 g2 r2 => ?_
  cases r1
  cases r2
  have g := g1.trans g2
  exact ⟨a, b, rfl, rfl, ⟨by omega, by omega, by omega, by omega, by omega⟩, fun p hp => q p _ F2 _ (g.trans (Gr.own g2.fh hp)) (g.hh.free hp) (g2.fh.free hp) upd_same rg_dvs⟩
theorem evn_rg1 (ha : EvB ta o en (.int a)) (h0 : -100000 ≤ a) (h1 : a ≤ 100000) : EvN (tLstRg (tRg1 ta)) o en ((List.range a.toNat).map I0) := fun _ _ _ _ _ k Q q => by
  refine ha _ _ _ _ _ k _ fun v F1 H1 g1 r1 => ?_
  cases r1
  refine ⟨a, rfl, ⟨by omega, by omega, by omega, by omega, by omega⟩, fun p hp => q p _ F1 _ (g1.trans (Gr.own g1.fh hp)) (g1.hh.free hp) (g1.fh.free hp) upd_same ?_⟩
  have h := rg_dvs (F := F1) (lo := 0) (hi := a)
  rw [rangeD0] at h
  rwa [Int.sub_zero] at h

/-! ### a def whose answer may be data or a new list -/
def spR (R : List Dt → Ret → Prop) : Sp := fun vs H Q _ => ∃ (F : Hp) (ds : List Dt) (r : Ret), Same F H ∧ Dvs F vs ds ∧ R ds r ∧ ∀ v H', RetOk F H r v H' → Q v H'
theorem ev_callRet {R : List Dt → Ret → Prop} (ha : EvA t o en ds) (r : R ds (.dat d)) : Ev (tCall (spR R) [] E0 t) o en d := fun _ _ _ _ _ k Q q => by
  refine ha _ _ _ _ _ k _ fun vs F1 H1 g1 r1 => ?_
  exact ⟨F1, ds, _, g1.fh, by rw [List.append_nil]; exact r1, r, fun v H2 ⟨F2, g2, r2⟩ => q v F2 H2 (g1.trans g2) r2⟩
theorem evn_callRet {R : List Dt → Ret → Prop} (ha : EvA t o en ds) (r : R ds (.new es)) : EvN (tCall (spR R) [] E0 t) o en es := fun _ _ _ _ _ k Q q => by
  refine ha _ _ _ _ _ k _ fun vs F1 H1 g1 r1 => ?_
  exact ⟨F1, ds, _, g1.fh, by rw [List.append_nil]; exact r1, r, fun v H2 ⟨p, xs, F2, ev, g2, h1, h2, h3, h4⟩ => by rw [ev]; exact q p xs F2 H2 (g1.trans g2) (g1.hh.free h1) h2 h3 h4⟩
section
variable {P : Program} {w : World} {mg : Str → Option Value} {base : Heap} {fx qual : Str} {st : Stmt} {f : Addr} {fd : FuncData} {N ps : List Str} {lv : Nat}
theorem fn_ret {R : List Dt → Ret → Prop} (F : Fun K fx qual st f fd) (S : FnScope N ps (defScope st)) (len : ∀ ds d, R ds d → ds.length = ps.length)
    (hbody : ∀ (cdv : Value) (A : Around) (outer : List Env) (s : Shared) (H : Hp) (E : XK), Room lv (A.deeper (PyProof.Rows.envOfC qual (defScope st) s.heap.objs.size f cdv)) → ∀ ds r, R ds r →
      ∃ t, PSs (cxOf CX0 P w K mg base N qual (defScope st) f cdv A outer s H E).nox (defBody st) t ∧ Blk t noO (startE N ds) r) : FnOk P w K mg base CX0 (lv + 1) f fd ps (spR R) := by
  refine F.ok S (fun vs H Q E h => ?_) (fun cdv A outer s H vs Q E hr h => ?_)
  · obtain ⟨F, ds, r, _, hv, hr, _⟩ := h
    rw [hv.length]
    exact len ds r hr
  · obtain ⟨F, ds, r, e, hv, hR, q⟩ := h
    obtain ⟨t, ht, hb⟩ := hbody cdv A outer s H E hr ds r hR
    exact ⟨t, ht, hb _ _ _ _ _ _ (ok_start e hv) q⟩
end

/-! ### an own list's reverse, clear -/
theorem sd_rev : Sd (tDrop (tBM0 K "list" rReverse (tVar i))) (ol i ds) en (ol i ds.reverse) en := fun D F0 H0 F σ H k q => by
  obtain ⟨a, xs, e, n0, nf, hH, r⟩ := k.own
  exact ⟨.ref a, e, .inl ⟨rfl, _, .inl (.inl hH)⟩, a, xs, rfl, rfl, hH, q F σ _ (Same.refl F) ⟨k.gr.mut n0 nf, k.env, k.len, a, _, e, n0, nf, upd_same, r.rev⟩⟩
theorem sd_clear : Sd (tDrop (tBM0 K "list" rClear (tVar i))) (ol i ds) en (ol i []) en := fun D F0 H0 F σ H k q => by
  obtain ⟨a, xs, e, n0, nf, hH, r⟩ := k.own
  exact ⟨.ref a, e, .inl ⟨rfl, _, .inl (.inl hH)⟩, a, xs, rfl, rfl, hH, q F σ _ (Same.refl F) ⟨k.gr.mut n0 nf, k.env, k.len, a, _, e, n0, nf, upd_same, .nil⟩⟩

/-! ### a list that is spoilt by the callee: _law_is_list -/
def spSpoil (R : List Dt → List Dt → Prop) : Sp := fun vs H Q _ => ∃ (F : Hp) (p : Addr) (xs : List V) (ds es : List Dt) (v : V), vs = [.ref p, v] ∧ Same F H ∧ F p = none ∧ H p = some (.lst xs) ∧ Dvs F xs ds ∧ Dv F v (.lst es) ∧ R ds es ∧
  ∀ F' H', Same F F' → Same F' H' → (∀ b o, b ≠ p → H b = some o → H' b = some o) → (∀ b o, b ≠ p → H b = some o → F b = none → F' b = none) → Q (.bl true) H'
theorem ev_spoil {R : List Dt → List Dt → Prop} (h1 : EvN ta o en ds) (h2 : Ev tb o en (.lst es)) (r : R ds es) : Ev (tCall (spSpoil R) [] E0 (tCons ta (tCons tb tNil))) o en (.bl true) := fun _ _ _ _ _ k Q q => by
  refine h1 _ _ _ _ _ k _ fun p xs F1 H1 g1 n0 nf hp r1 => ?_
  refine h2 _ _ _ _ _ (k.grow g1) _ fun v F2 H2 g2 r2 => ?_
  have g := g1.trans g2
  have nf2 := g2.ap p _ hp nf
  refine ⟨F2, p, xs, ds, es, v, rfl, g2.fh, nf2, g2.hh p _ hp, r1.mono g2.ff, r2, r, fun F' H' e1 e2 e3 e4 => ?_⟩
  exact q _ F' H' ⟨g.ff.trans e1, e2, fun b ob hb => e3 b ob (ne_of_none hb n0) (g.hh b ob hb), fun b ob hb hn => e4 b ob (ne_of_none hb n0) (g.hh b ob hb) (g.ap b ob hb hn)⟩ (.bl true)
theorem run_blk {D : Ends} {F0 H0 F H : Hp} {σ : St} {tt : TS} (k : Ok F0 H0 o en F σ H) (hb : Blk tt o en r) (q : ∀ v H', RetOk F0 H0 r v H' → D.rt v H') : tt D σ H := hb D F0 H0 F σ H k q
/-- the heap without the object at p -/
def era (H : Hp) (p : Addr) : Hp := fun b => if b = p then none else H b
theorem era_self {H : Hp} {p : Addr} : era H p p = none := by unfold era; rw [if_pos rfl]
theorem era_ne {H : Hp} {p b : Addr} (h : b ≠ p) : era H p b = H b := by unfold era; rw [if_neg h]
theorem era_same {H : Hp} {p : Addr} : Same (era H p) H := fun b o h => by
  by_cases e : b = p
  · rw [e, era_self] at h; cases h
  · rwa [era_ne e] at h

/-! ### a list of lists of ints, all one's own -/
def oll (i : Nat) (nss : List (List Int)) : Ow where
  P := fun H0 F σ H => ∃ (p : Addr) (qs : List Addr), σ[i]? = some (some (.ref p)) ∧ H p = some (.lst (qs.map V.ref)) ∧ (p :: qs).Nodup ∧ (∀ q ∈ p :: qs, H0 q = none ∧ F q = none) ∧ qs.length = nss.length ∧
    ∀ (j : Nat) (q : Addr) (ns : List Int), qs[j]? = some q → nss[j]? = some ns → H q = some (.lst (ns.map V.int))
  sl := [i]
  grow := by
    rintro H0 F σ H F' H' ⟨p, qs, e, hp, nd, hf, hl, hq⟩ g
    refine ⟨p, qs, e, g.hh p _ hp, nd, fun q hm => ⟨(hf q hm).1, ?_⟩, hl, fun j q ns h1 h2 => g.hh q _ (hq j q ns h1 h2)⟩
    rcases List.mem_cons.mp hm with z | z
    · rw [z]
      exact g.ap p _ hp (hf p List.mem_cons_self).2
    · obtain ⟨j, hj⟩ := List.getElem?_of_mem z
      have hjl : j < nss.length := by rw [← hl]; exact (List.getElem?_eq_some_iff.mp hj).1
      exact g.ap q _ (hq j q _ hj (List.getElem?_eq_getElem hjl)) (hf q hm).2
  slot := fun ⟨p, qs, e, r⟩ k => ⟨p, qs, (k i (List.mem_singleton.mpr rfl)).trans e, r⟩
/-- i = [[] for .. in ..] -/
theorem sd_oll {α : Type} {wi : TI} {vs : List Nat} {xs : List α} {f : α → Dt} (hi : Itd wi noO en (xs.map f)) (hlen : xs.length < 100000)
    (body : ∀ x, x ∈ xs → ∃ en1 js, Tg g (f x) noO (wipeE en vs) en1 js ∧ (∀ j ∈ js, j ∈ vs)) (hil : i < en.length) :
    Sd (tAsg (tLc wi g tYes (tLst tNil) vs) (gName i)) noO en (oll i (List.replicate xs.length [])) (en.set i none) := fun D0 F0 H0 F σ H k q => by
  refine hi _ _ _ _ _ k _ fun J F1 H1 g1 y D hD => ?_
  have k1 := k.grow g1
  refine ⟨fun i m H => i + m = xs.length ∧ ∃ F2 qs, Gr F1 H1 F2 H ∧ F2 D = none ∧ H D = some (.lst (qs.map V.ref)) ∧ (D :: qs).Nodup ∧ qs.length = i ∧ ∀ q ∈ qs, H1 q = none ∧ F2 q = none ∧ H q = some (.lst []),
    ⟨xs.length, by omega, F1, [], Gr.own g1.fh hD, g1.fh.free hD, upd_same, List.nodup_cons.mpr ⟨fun z => (by cases z), List.nodup_nil⟩, rfl, fun q hq => (by cases hq)⟩, fun i' m H2 hW => ?_⟩
  obtain ⟨em, F2, qs, g2, fD, hHD, nd, hql, hq⟩ := hW
  obtain ⟨y1, y2⟩ := y F2 H2 g2.ff g2.fh i'
  cases hx : xs[i']? with
  | none =>
    have hl : xs.length ≤ i' := List.getElem?_eq_none_iff.mp hx
    refine .inl ⟨y2 (by rw [List.length_map]; exact hl), ?_⟩
    have k2 := ((k.grow (g1.trans g2)).setNone (i := i) (v := .ref D) (fun z => (by cases z)))
    refine q F2 _ H2 (g1.ff.trans g2.ff) ⟨k2.gr, k2.env, k2.len, D, qs, List.getElem?_set_self (by rw [k.len]; exact hil), hHD, nd, fun q' hm => ?_, by rw [hql, List.length_replicate]; omega, fun j q' ns h1 h2 => ?_⟩
    · rcases List.mem_cons.mp hm with z | z
      · rw [z]
        exact ⟨k.gr.hh.free (g1.hh.free hD), fD⟩
      · obtain ⟨a1, a2, _⟩ := hq q' z
        exact ⟨k.gr.hh.free (g1.hh.free a1), a2⟩
    · rw [List.getElem?_replicate] at h2
      split at h2
      · cases h2
        exact (hq q' (List.mem_of_getElem? h1)).2.2
      · cases h2
  | some x =>
    have hl : i' < xs.length := (List.getElem?_eq_some_iff.mp hx).1
    obtain ⟨go, yl⟩ := y1 (f x) (by rw [List.getElem?_map, hx]; rfl)
    refine .inr ⟨go, fun H' => ∃ F2 qs, Gr F1 H1 F2 H' ∧ F2 D = none ∧ H' D = some (.lst (qs.map V.ref)) ∧ (D :: qs).Nodup ∧ qs.length = i' + 1 ∧ ∀ q ∈ qs, H1 q = none ∧ F2 q = none ∧ H' q = some (.lst []), fun H' h' => ⟨m - 1, by omega, by omega, h'⟩, fun v H3 hy => ?_⟩
    obtain ⟨F3, g3, r3⟩ := yl v H3 hy
    obtain ⟨en1, js, ht, hjs⟩ := body x (List.mem_of_getElem? hx)
    have g23 := g2.trans g3
    have k3 := (k1.grow g23).wipe (vs := vs) (fun j hj z => (by cases z))
    refine ht _ _ _ _ _ _ k3 r3 _ fun σ4 k4 l4 e4 => ⟨?_, ?_⟩
    · exact wipe_same (l4.trans (wipe_length _ _)) fun j hj => e4 j fun z => hj (hjs j z)
    · unfold tYes
      dsimp only
      rw [if_pos rfl]
      refine ⟨Nat.zero_le _, fun p hp => ?_⟩
      have hHD3 := g3.hh D _ hHD
      have hDp : D ≠ p := ne_of_none hHD3 hp
      have fD3 := g3.ap D _ hHD fD
      have h1p : H1 p = none := g23.hh.free hp
      refine ⟨qs.map V.ref, by rw [upd_ne hDp]; exact hHD3, ?_, F3, qs ++ [p], ?_, fD3, ?_, ?_, by rw [List.length_append, hql]; rfl, fun q' hm => ?_⟩
      · rw [List.length_map, hql]
        exact Nat.lt_of_lt_of_le (show i' < 100000 by omega) (by decide : 100000 ≤ sizeLine)
      · exact (g23.trans (Gr.own g3.fh hp)).mut hD fD3
      · rw [upd_same, List.map_append]
        rfl
      · obtain ⟨n1, n2⟩ := List.nodup_cons.mp nd
        refine List.nodup_cons.mpr ⟨fun z => ?_, List.nodup_append.mpr ⟨n2, List.nodup_cons.mpr ⟨fun z => (by cases z), List.nodup_nil⟩, fun a ha b hb e => ?_⟩⟩
        · rcases List.mem_append.mp z with z | z
          · exact n1 z
          · exact hDp (List.mem_singleton.mp z)
        · have ha3 := g3.hh a _ (hq a ha).2.2
          rw [e, List.mem_singleton.mp hb, hp] at ha3
          cases ha3
      · rcases List.mem_append.mp hm with z | z
        · obtain ⟨a1, a2, a3⟩ := hq q' z
          have n1 : q' ≠ D := fun w => (List.nodup_cons.mp nd).1 (by rw [← w]; exact z)
          have a3' := g3.hh q' _ a3
          refine ⟨a1, g3.ap q' _ a3 a2, ?_⟩
          rw [upd_ne n1, upd_ne (ne_of_none a3' hp)]
          exact a3'
        · rw [List.mem_singleton.mp z]
          refine ⟨h1p, g3.fh.free hp, ?_⟩
          rw [upd_ne hDp.symm, upd_same]
/-- xs[a].append(e) -/
theorem sd_ollApp {nss nss' : List (List Int)} {ns : List Int} {v : Int} (ha : EvB ta (oll i nss) en (.int a)) (hv : EvB tb (oll i nss) en (.int v)) (h0 : 0 ≤ a) (hn : nss[a.toNat]? = some ns) (hl : ns.length < 100000) (e : nss.set a.toNat (ns ++ [v]) = nss') (l : LeE en1 en) :
    Sd (tDrop (tBM K "list" rAppend (tOp (rIx K) (tVar i) ta) (tCons tb tNil))) (oll i nss) en (oll i nss') en1 := fun D F0 H0 F σ H k q => by
  subst e
  obtain ⟨p, qs, es, hp, nd, hf, hql, hq⟩ := k.own
  refine ⟨.ref p, es, ha _ _ _ _ _ k _ fun va F1 H1 g1 r1 => ?_⟩
  cases r1
  have k1 := k.grow g1
  have hal : a.toNat < qs.length := by rw [hql]; exact (List.getElem?_eq_some_iff.mp hn).1
  obtain ⟨u, hu⟩ : ∃ u, qs[a.toNat]? = some u := ⟨_, List.getElem?_eq_getElem hal⟩
  have hH := hq _ _ _ hu hn
  have e' : atI (qs.map V.ref) ((a.toNat : Nat) : Int) = some (.ref u) := atI_nat (by rw [List.getElem?_map, hu]; rfl)
  rw [Int.toNat_of_nonneg h0] at e'
  refine .inl ⟨p, _, a, .ref u, rfl, rfl, .inl (.inl (g1.hh p _ hp)), e', .inl ⟨rfl, _, .inl (.inl (g1.hh u _ hH))⟩, hv _ _ _ _ _ k1 _ fun vb F2 H2 g2 r2 => ?_⟩
  cases r2
  have g := g1.trans g2
  have k2 := k.grow g
  have hH2 := g.hh u _ hH
  have hum : u ∈ qs := List.mem_of_getElem? hu
  obtain ⟨n1, n2⟩ := List.nodup_cons.mp nd
  have nup : p ≠ u := fun z => n1 (by rw [z]; exact hum)
  refine ⟨u, _, .int v, rfl, rfl, hH2, Nat.lt_of_lt_of_le (by rw [List.length_map]; exact hl) (by decide : 100000 ≤ sizeLine), ?_⟩
  obtain ⟨p', qs', es', hp', nd', hf', hql', hq'⟩ := k2.own
  have ep : p' = p := by
    have := es'.symm.trans es
    cases this
    rfl
  subst ep
  have eqs : qs' = qs := by
    have z := Option.some.inj (hp'.symm.trans (g.hh p' _ hp))
    injection z with z
    have : ∀ (l1 l2 : List Addr), l1.map V.ref = l2.map V.ref → l1 = l2 := fun l1 => by
      induction l1 with
      | nil => intro l2 h; cases l2 with
        | nil => rfl
        | cons _ _ => cases h
      | cons c l1 ih => intro l2 h; cases l2 with
        | nil => cases h
        | cons c' l2 =>
          rw [List.map_cons, List.map_cons] at h
          injection h with h1 h2
          injection h1 with h1
          rw [h1, ih l2 h2]
    exact this _ _ z
  subst eqs
  refine q F2 σ _ (g.ff) ⟨k2.gr.mut (hf' u (List.mem_cons_of_mem _ hum)).1 (hf' u (List.mem_cons_of_mem _ hum)).2, (k2.weak l).env, (k2.weak l).len, p', qs', es', by rw [upd_ne nup]; exact hp', nd', hf', by rw [hql', List.length_set], fun j q' ns' h1 h2 => ?_⟩
  by_cases z : a.toNat = j
  · subst z
    have eu : q' = u := Option.some.inj (h1.symm.trans hu)
    rw [List.getElem?_set_self (by rw [← hql]; exact hal)] at h2
    cases h2
    rw [eu, upd_same, List.map_append]
    rfl
  · rw [List.getElem?_set_ne z] at h2
    have nq : q' ≠ u := fun w => by
      rw [w] at h1
      have hj : j < qs'.length := (List.getElem?_eq_some_iff.mp h1).1
      exact z ((List.getElem_inj n2).mp ((List.getElem?_eq_some_iff.mp hu).2.trans (List.getElem?_eq_some_iff.mp h1).2.symm))
    rw [upd_ne nq]
    exact hq' j q' ns' h1 h2
/-- return xs: from now on F's -/
theorem blk_retOll {nss : List (List Int)} : Blk (tRet (tVar i)) (oll i nss) en (.dat (L (L .int) nss)) := fun D F0 H0 F σ H k q => by
  obtain ⟨p, qs, es, hp, nd, hf, hql, hq⟩ := k.own
  refine ⟨.ref p, es, q _ H ?_⟩
  have hk : ∀ b, b ∈ p :: qs → (fun b => if b ∈ p :: qs then H b else F b) b = H b := fun b hb => if_pos hb
  have hn : ∀ b, b ∉ p :: qs → (fun b => if b ∈ p :: qs then H b else F b) b = F b := fun b hb => if_neg hb
  have sF : Same F (fun b => if b ∈ p :: qs then H b else F b) := fun b ob hb => by
    by_cases z : b ∈ p :: qs
    · rw [(hf b z).2] at hb
      cases hb
    · exact (hn b z).trans hb
  refine ⟨fun b => if b ∈ p :: qs then H b else F b, ⟨k.gr.ff.trans sF, fun b ob hb => ?_, k.gr.hh, fun b ob hb hn0 => ?_⟩, .lst ((hk p List.mem_cons_self).trans hp) ?_⟩
  · by_cases z : b ∈ p :: qs
    · exact (hk b z).symm.trans hb
    · exact k.fh b ob ((hn b z).symm.trans hb)
  · by_cases z : b ∈ p :: qs
    · rw [(hf b z).1] at hb
      cases hb
    · exact (hn b z).trans (k.gr.ap b ob hb hn0)
  · have all : ∀ (qs' : List Addr) (nss' : List (List Int)), (∀ q ∈ qs', q ∈ p :: qs) → qs'.length = nss'.length → (∀ (j : Nat) (q : Addr) (ns : List Int), qs'[j]? = some q → nss'[j]? = some ns → H q = some (.lst (ns.map V.int))) →
        Dvs (fun b => if b ∈ p :: qs then H b else F b) (qs'.map V.ref) (nss'.map (L .int)) := by
      intro qs'
      induction qs' with
      | nil =>
        intro nss' _ hl _
        cases nss' with
        | nil => exact .nil
        | cons _ _ => cases hl
      | cons c qs' ih =>
        intro nss' hm hl hh
        cases nss' with
        | nil => cases hl
        | cons ns nss' =>
          refine .cons (.lst ((hk c (hm c List.mem_cons_self)).trans (hh 0 c ns rfl rfl)) (Dvs.of (fun i => .int i) ns)) (ih nss' (fun q hq => hm q (List.mem_cons_of_mem _ hq)) (Nat.succ.inj hl) fun j q ns h1 h2 => hh (j + 1) q ns h1 h2)
    exact all qs nss (fun q hq => List.mem_cons_of_mem _ hq) hql hq
end
end Dl

/-! Objects that are made: the fields so far; C(..). -/
namespace Dl
open PySem L2
def putD (f : Str) (d : Dt) : List (Str × Dt) → List (Str × Dt)
  | [] => [(f, d)]
  | (g, x) :: r => if g = f then (g, d) :: r else (g, x) :: putD f d r
theorem Dfs.put {F : Hp} {f : Str} {v : V} {d : Dt} (h : Dv F v d) : ∀ {fs : List (Str × V)} {ds : List (Str × Dt)}, Dfs F fs ds → Dfs F (putF f v fs) (putD f d ds)
  | _, _, .nil => .cons h .nil
  | (n, u) :: fs, (_, e) :: ds, .cons r t => by
    unfold putF putD
    by_cases q : n = f
    · rw [if_pos q, if_pos q]
      exact .cons h t
    · rw [if_neg q, if_neg q]
      exact .cons r (Dfs.put h t)
theorem Dfs.length {F : Hp} : ∀ {fs : List (Str × V)} {ds : List (Str × Dt)}, Dfs F fs ds → fs.length = ds.length
  | _, _, .nil => rfl
  | _, _, .cons _ t => congrArg (· + 1) (Dfs.length t)
/-- the object in slot i, whose fields so far are F's -/
def oself (i : Nat) (a C : Addr) (fds : List (Str × Dt)) : Ow where
  P := fun H0 F σ H => ∃ (dx : Addr) (fvs : List (Str × V)), σ[i]? = some (some (.ref a)) ∧ H0 a = none ∧ F a = none ∧ H a = some (.ins C dx fvs) ∧ Dfs F fvs fds
  sl := [i]
  grow := fun ⟨dx, fvs, e, n0, nf, h, d⟩ g => ⟨dx, fvs, e, n0, g.ap a _ h nf, g.hh a _ h, d.mono g.ff⟩
  slot := fun ⟨dx, fvs, e, r⟩ k => ⟨dx, fvs, (k i (List.mem_singleton.mpr rfl)).trans e, r⟩
section
variable {K : PySem.W.Frag} {o o1 o2 : Ow} {en en1 en2 : En} {te ta tb tc : TE} {d x y z : Dt} {ds es : List Dt} {tt tu : TT} {i : Nat} {t : TA} {t1 t2 t3 : TS} {r : Ret} {a b : Int} {C p : Addr} {fds : List (Str × Dt)} {f : Str}
theorem ev_self (c : Cls K C) (n : NoAttr K C f) (e : fds.lookup f = some d) : Ev (tFld K (tVar i) f) (oself i p C fds) en d := fun _ _ _ _ _ k Q q => by
  obtain ⟨dx, fvs, es, n0, nf, h, hd⟩ := k.own
  obtain ⟨v, ev, rv⟩ := hd.get e
  exact ⟨.ref p, es, p, C, dx, fvs, v, rfl, h, c, n, ev, q v _ _ (.refl k.fh) rv⟩
theorem sd_fld (hv : Ev te (oself i p C fds) en d) (c : Cls K C) (n : NoAttr K C f) (hl : fds.length < 1000) : Sd (sFld K (tVar i) te f) (oself i p C fds) en (oself i p C (putD f d fds)) en := fun D F0 H0 F σ H k q => by
  refine hv _ _ _ _ _ k _ fun v F1 H1 g1 r1 => ?_
  have k1 := k.grow g1
  obtain ⟨dx, fvs, es, n0, nf, h, hd⟩ := k1.own
  exact ⟨.ref p, es, p, C, dx, fvs, rfl, h, c, n, by rw [hd.length]; exact hl, q F1 σ _ g1.ff ⟨k1.gr.mut n0 nf, k1.env, k1.len, dx, _, es, n0, nf, upd_same, hd.put r1⟩⟩
theorem sd_drop (h : Ev te o en d) : Sd (tDrop te) o en o en := fun D F0 H0 F σ H k q => h _ _ _ _ _ k _ fun v F1 H1 g1 r1 => q F1 σ H1 g1.ff (k.grow g1)

/-! ### C(..) -/
def spInit (C : Addr) (R : List Dt → List (Str × Dt) → Prop) : Sp := fun vs H Q _ => ∃ (F : Hp) (p dx : Addr) (us : List V) (ds : List Dt) (fds : List (Str × Dt)), vs = .ref p :: us ∧ Same F H ∧ F p = none ∧ H p = some (.ins C dx []) ∧ Dvs F us ds ∧ R ds fds ∧
  ∀ F' H' dx' fvs, Gr F (era H p) F' H' → F' p = none → H' p = some (.ins C dx' fvs) → Dfs F' fvs fds → Q .non H'
theorem same_make {H : Hp} {x dx C : Addr} (hx : H x = none) (hdx : H dx = none) : Same H (era (upd (upd H dx (.own x)) x (.ins C dx [])) x) := fun b ob hb => by
  have n1 : b ≠ x := ne_of_none hb hx
  have n2 : b ≠ dx := ne_of_none hb hdx
  rw [era_ne n1, upd_ne n1, upd_ne n2]
  exact hb
theorem gr_make {F H F1 H1 F' H' : Hp} {x dx C : Addr} {ob : HO} (g1 : Gr F H F1 H1) (hx : H1 x = none) (hdx : H1 dx = none) (g2 : Gr F1 (era (upd (upd H1 dx (.own x)) x (.ins C dx [])) x) F' H') (nf : F' x = none) (h : H' x = some ob) : Gr F H (upd F' x ob) H' := by
  have s := same_make (C := C) hx hdx
  have g3 : Gr F1 H1 F' H' := ⟨g2.ff, g2.fh, s.trans g2.hh, fun b o hb hn => g2.ap b o (s b o hb) hn⟩
  exact (g1.trans g3).freeze (g1.hh.free hx) nf h
theorem ev_make {R : List Dt → List (Str × Dt) → Prop} (ha : EvA t o en ds) (r : R ds fds) : Ev (tMake C (spInit C R) [] E0 t) o en (.obj C fds) := fun _ _ _ _ _ k Q q => by
  refine ha _ _ _ _ _ k _ fun vs F1 H1 g1 r1 x dx hx hdx hne => ?_
  refine ⟨F1, x, dx, vs, ds, fds, by rw [List.append_nil], g1.fh.trans ((same_make (C := C) hx hdx).trans era_same), g1.fh.free hx, upd_same, r1, r, fun F' H' dx' fvs g2 nf h hd => ⟨rfl, ?_⟩⟩
  exact q _ _ _ (gr_make g1 hx hdx g2 nf h) (.obj upd_same (hd.mono (same_new nf)))
def startI (N : List Str) (ds : List Dt) : En := none :: (ds.map some ++ List.replicate (N.length - (ds.length + 1)) none)
theorem ok_startI {N : List Str} {F H : Hp} {p dx : Addr} {us : List V} (e : Same F H) (nf : F p = none) (hp : H p = some (.ins C dx [])) (h : Dvs F us ds) : Ok F (era H p) (oself 0 p C []) (startI N ds) F (L2.start N (.ref p :: us)) H := by
  have hl := h.length
  refine ⟨⟨Same.refl F, e, era_same, fun _ _ _ h => h⟩, fun j d' hd => ?_, ?_, dx, [], rfl, era_self, nf, hp, .nil⟩
  · cases j with
    | zero => cases hd
    | succ j =>
      have hd : (ds.map some ++ List.replicate (N.length - (ds.length + 1)) none)[j]? = some (some d') := hd
      show ∃ v, (us.map some ++ List.replicate (N.length - (us.length + 1)) none)[j]? = some (some v) ∧ Dv F v d'
      by_cases z : j < ds.length
      · rw [List.getElem?_append_left (by rw [List.length_map]; exact z), List.getElem?_map] at hd
        cases q : ds[j]? with
        | none => rw [q] at hd; cases hd
        | some d1 =>
          rw [q] at hd
          have hd' : d1 = d' := Option.some.inj (Option.some.inj hd)
          subst hd'
          obtain ⟨v, hv, r⟩ := h.get q
          exact ⟨v, by rw [List.getElem?_append_left (by rw [List.length_map, hl]; exact z), List.getElem?_map, hv]; rfl, r⟩
      · rw [List.getElem?_append_right (by rw [List.length_map]; omega), List.getElem?_replicate] at hd
        split at hd <;> cases hd
  · show (us.map some ++ List.replicate (N.length - (us.length + 1)) none).length + 1 = (ds.map some ++ List.replicate (N.length - (ds.length + 1)) none).length + 1
    rw [List.length_append, List.length_append, List.length_map, List.length_map, List.length_replicate, List.length_replicate, hl]
section
variable {P : Program} {w : World} {mg : Str → Option Value} {base : Heap} {fx qual : Str} {st : Stmt} {f : Addr} {fd : FuncData} {N ps : List Str} {lv : Nat}
theorem fn_init {R : List Dt → List (Str × Dt) → Prop} (F : Fun K fx qual st f fd) (S : FnScope N ps (defScope st)) (len : ∀ ds d, R ds d → ds.length + 1 = ps.length)
    (hbody : ∀ (cdv : Value) (A : Around) (outer : List Env) (s : Shared) (H : Hp) (E : XK), Room lv (A.deeper (PyProof.Rows.envOfC qual (defScope st) s.heap.objs.size f cdv)) → ∀ p ds fds, R ds fds →
      ∃ t, PSs (cxOf CX0 P w K mg base N qual (defScope st) f cdv A outer s H E).nox (defBody st) t ∧ ∃ en', Sd t (oself 0 p C []) (startI N ds) (oself 0 p C fds) en') : FnOk P w K mg base CX0 (lv + 1) f fd ps (spInit C R) := by
  refine F.ok S (fun vs H Q E h => ?_) (fun cdv A outer s H vs Q E hr h => ?_)
  · obtain ⟨F, p, dx, us, ds, fds, rfl, _, _, _, hv, r, _⟩ := h
    rw [List.length_cons, hv.length]
    exact len ds fds r
  · obtain ⟨F, p, dx, us, ds, fds, rfl, e, nf, hp, hv, r, q⟩ := h
    obtain ⟨t, ht, en', hb⟩ := hbody cdv A outer s H E hr p ds fds r
    refine ⟨t, ht, hb _ _ _ _ _ _ (ok_startI e nf hp hv) fun F' σ' H' _ k => ?_⟩
    obtain ⟨dx', fvs, es, n0, nf', h', hd⟩ := k.own
    exact q F' H' dx' fvs k.gr nf' h' hd
end
end
end Dl

/-! An object under way: fields that are F's, fields that are lists of its own, slots that are read alone. -/
namespace Dl
open PySem L2
inductive Owl (H0 F H : Hp) : List (Str × V) → List Addr → List (Str × List Dt) → Prop
  | nil : Owl H0 F H [] [] []
  | cons {n : Str} {q : Addr} {xs : List V} {ds : List Dt} {fs : List (Str × V)} {qs : List Addr} {os : List (Str × List Dt)} : H0 q = none → F q = none → H q = some (.lst xs) → Dvs F xs ds → Owl H0 F H fs qs os → Owl H0 F H ((n, .ref q) :: fs) (q :: qs) ((n, ds) :: os)
def putL (n : Str) (ds : List Dt) : List (Str × List Dt) → List (Str × List Dt)
  | [] => []
  | (m, x) :: r => if (n == m) = true then (m, ds) :: r else (m, x) :: putL n ds r
section
variable {H0 F H F' H' : Hp} {fs : List (Str × V)} {qs : List Addr} {os : List (Str × List Dt)} {n : Str} {q : Addr} {ds : List Dt} {xs : List V}
theorem Owl.grow (g : Gr F H F' H') (h : Owl H0 F H fs qs os) : Owl H0 F' H' fs qs os := by
  induction h with
  | nil => exact .nil
  | cons n0 nf e d _ ih => exact .cons n0 (g.ap _ _ e nf) (g.hh _ _ e) (d.mono g.ff) ih
theorem Owl.mem (h : Owl H0 F H fs qs os) (hq : q ∈ qs) : H0 q = none ∧ F q = none ∧ ∃ xs, H q = some (.lst xs) := by
  induction h with
  | nil => cases hq
  | cons n0 nf e d _ ih =>
    rcases List.mem_cons.mp hq with rfl | hq
    · exact ⟨n0, nf, _, e⟩
    · exact ih hq
theorem Owl.len (h : Owl H0 F H fs qs os) : fs.length = os.length := by
  induction h with
  | nil => rfl
  | cons n0 nf e d _ ih => exact congrArg (· + 1) ih
theorem Owl.oth {r : Addr} {o : HO} (h : Owl H0 F H fs qs os) (hr : r ∉ qs) : Owl H0 F (upd H r o) fs qs os := by
  induction h with
  | nil => exact .nil
  | cons n0 nf e d _ ih => exact .cons n0 nf (by rw [upd_ne fun z => hr (by rw [z]; exact List.mem_cons_self)]; exact e) d (ih fun z => hr (List.mem_cons_of_mem _ z))
theorem Owl.h0 {G : Hp} (h : Owl H0 F H fs qs os) (hg : ∀ q ∈ qs, G q = none) : Owl G F H fs qs os := by
  induction h with
  | nil => exact .nil
  | cons n0 nf e d _ ih => exact .cons (hg _ List.mem_cons_self) nf e d (ih fun q hq => hg q (List.mem_cons_of_mem _ hq))
theorem Owl.look (h : Owl H0 F H fs qs os) (e : os.lookup n = some ds) : ∃ q xs, fs.lookup n = some (.ref q) ∧ H q = some (.lst xs) ∧ Dvs F xs ds := by
  induction h with
  | nil => cases e
  | @cons m q1 xs1 ds1 fs qs os n0 nf e1 d _ ih =>
    rw [List.lookup_cons] at e ⊢
    cases z : n == m with
    | true =>
      rw [z] at e
      cases e
      exact ⟨_, _, rfl, e1, d⟩
    | false =>
      rw [z] at e
      exact ih e
theorem Owl.lmem (h : Owl H0 F H fs qs os) (e : fs.lookup n = some (.ref q)) : q ∈ qs := by
  induction h with
  | nil => cases e
  | @cons m q1 xs1 ds1 fs qs os n0 nf e1 d _ ih =>
    rw [List.lookup_cons] at e
    cases z : n == m with
    | true =>
      rw [z] at e
      cases e
      exact List.mem_cons_self
    | false =>
      rw [z] at e
      exact List.mem_cons_of_mem _ (ih e)
theorem Owl.no (h : Owl H0 F H fs qs os) (e : os.lookup n = none) : fs.lookup n = none := by
  induction h with
  | nil => rfl
  | @cons m q1 xs1 ds1 fs qs os n0 nf e1 d _ ih =>
    rw [List.lookup_cons] at e ⊢
    cases z : n == m with
    | true =>
      rw [z] at e
      cases e
    | false =>
      rw [z] at e
      exact ih e
theorem Owl.put (h : Owl H0 F H fs qs os) (nd : qs.Nodup) (e : fs.lookup n = some (.ref q)) (d : Dvs F xs ds) : Owl H0 F (upd H q (.lst xs)) fs qs (putL n ds os) := by
  induction h with
  | nil => cases e
  | @cons m q1 xs1 ds1 fs qs os n0 nf e1 d1 t ih =>
    obtain ⟨d2, d3⟩ := List.nodup_cons.mp nd
    rw [List.lookup_cons] at e
    unfold putL
    cases z : n == m with
    | true =>
      rw [z] at e
      cases e
      rw [if_pos rfl]
      exact .cons n0 nf upd_same d (t.oth d2)
    | false =>
      rw [z] at e
      rw [if_neg Bool.false_ne_true]
      have hq := t.lmem e
      exact .cons n0 nf (by rw [upd_ne fun w => d2 (by rw [w]; exact hq)]; exact e1) d1 (ih d3 e)
theorem Owl.snoc (h : Owl H0 F H fs qs os) (n0 : H0 q = none) (nf : F q = none) (e : H q = some (.lst xs)) (d : Dvs F xs ds) : Owl H0 F H (fs ++ [(n, .ref q)]) (qs ++ [q]) (os ++ [(n, ds)]) := by
  induction h with
  | nil => exact .cons n0 nf e d .nil
  | cons n0' nf' e' d' _ ih => exact .cons n0' nf' e' d' ih
theorem Owl.frz {G : Hp} (h : Owl H0 F H fs qs os) (s : Same F G) (hg : ∀ q ∈ qs, G q = H q) : Dfs G fs (os.map fun x => (x.1, .lst x.2)) := by
  induction h with
  | nil => exact .nil
  | cons n0 nf e d _ ih => exact .cons (.lst ((hg _ List.mem_cons_self).trans e) (d.mono s)) (ih fun q hq => hg q (List.mem_cons_of_mem _ hq))
theorem Dfs.app {a b : List (Str × V)} {c d : List (Str × Dt)} (h : Dfs F a c) (h' : Dfs F b d) : Dfs F (a ++ b) (c ++ d) := by
  induction a generalizing c with
  | nil =>
    cases h
    exact h'
  | cons x a ih =>
    cases h with
    | cons r t => exact .cons r (ih t)
theorem putF_new {f : Str} {v : V} : ∀ {l : List (Str × V)}, l.lookup f = none → putF f v l = l ++ [(f, v)]
  | [], _ => rfl
  | (m, x) :: l, h => by
    rw [List.lookup_cons] at h
    cases z : f == m with
    | true =>
      rw [z] at h
      cases h
    | false =>
      rw [z] at h
      have hne : ¬ m = f := fun w => by
        rw [w, beq_self_eq_true] at z
        cases z
      unfold putF
      rw [if_neg hne, putF_new h]
      rfl
end
structure ShA where
  z : Bool
  p : Addr
  C : Addr
  bor : List (Nat × Dt)
  fro : List (Str × Dt)
  os : List (Str × List Dt)
  fo : Option (List Dt)
  fq : Option (List (Str × V) × List Addr)
structure ShP (A : ShA) (H0 F : Hp) (σ : St) (H : Hp) (dx : Addr) (fvs fs : List (Str × V)) (qs : List Addr) : Prop where
  s0 : σ[0]? = some (some (.ref A.p))
  z0 : A.z = true → H0 A.p = none
  fp : F A.p = none
  hp : H A.p = some (.ins A.C dx (fvs ++ fs))
  fr : Dfs F fvs A.fro
  ow : Owl H0 F H fs qs A.os
  nd : (A.p :: qs).Nodup
  bo : ∀ x ∈ A.bor, ∃ v, σ[x.1]? = some (some v) ∧ Dv H0 v x.2
  fo : ∀ ds, A.fo = some ds → ∃ a xs, σ[4]? = some (some (.ref a)) ∧ a ∉ A.p :: qs ∧ H0 a = none ∧ F a = none ∧ H a = some (.lst xs) ∧ Dvs F xs ds
  fq : ∀ w, A.fq = some w → fs = w.1 ∧ qs = w.2
def ShA.sl (A : ShA) : List Nat := 0 :: (A.bor.map (·.1) ++ match A.fo with
  | none => []
  | some _ => [4])
section
variable {A : ShA} {H0 F H F' H' : Hp} {σ σ' : St} {dx : Addr} {fvs fs : List (Str × V)} {qs : List Addr}
theorem ShP.grow (h : ShP A H0 F σ H dx fvs fs qs) (g : Gr F H F' H') : ShP A H0 F' σ H' dx fvs fs qs :=
  ⟨h.s0, h.z0, g.ap _ _ h.hp h.fp, g.hh _ _ h.hp, h.fr.mono g.ff, h.ow.grow g, h.nd, h.bo, fun ds e => let ⟨a, xs, e1, e2, e3, e4, e5, e6⟩ := h.fo ds e; ⟨a, xs, e1, e2, e3, g.ap _ _ e5 e4, g.hh _ _ e5, e6.mono g.ff⟩, h.fq⟩
theorem ShP.slot (h : ShP A H0 F σ H dx fvs fs qs) (k : ∀ j ∈ A.sl, σ'[j]? = σ[j]?) : ShP A H0 F σ' H dx fvs fs qs :=
  ⟨(k 0 List.mem_cons_self).trans h.s0, h.z0, h.fp, h.hp, h.fr, h.ow, h.nd, fun x hx => let ⟨v, e, r⟩ := h.bo x hx; ⟨v, (k x.1 (List.mem_cons_of_mem _ (List.mem_append_left _ (List.mem_map.mpr ⟨x, hx, rfl⟩)))).trans e, r⟩,
    fun ds e => let ⟨a, xs, e1, r⟩ := h.fo ds e; ⟨a, xs, (k 4 (List.mem_cons_of_mem _ (List.mem_append_right _ (by rw [e]; exact List.mem_singleton.mpr rfl)))).trans e1, r⟩, h.fq⟩
end
def osh (A : ShA) : Ow where
  P := fun H0 F σ H => ∃ dx fvs fs qs, ShP A H0 F σ H dx fvs fs qs
  sl := A.sl
  grow := fun ⟨dx, fvs, fs, qs, h⟩ g => ⟨dx, fvs, fs, qs, h.grow g⟩
  slot := fun ⟨dx, fvs, fs, qs, h⟩ k => ⟨dx, fvs, fs, qs, h.slot k⟩
/-- the heap without these -/
def eras (H : Hp) (qs : List Addr) : Hp := fun b => if b ∈ qs then none else H b
theorem eras_in {H : Hp} {qs : List Addr} {b : Addr} (h : b ∈ qs) : eras H qs b = none := if_pos h
theorem eras_out {H : Hp} {qs : List Addr} {b : Addr} (h : b ∉ qs) : eras H qs b = H b := if_neg h
theorem eras_same {H : Hp} {qs : List Addr} : Same (eras H qs) H := fun b o h => by
  by_cases e : b ∈ qs
  · rw [eras_in e] at h; cases h
  · rwa [eras_out e] at h
def spBent (C : Addr) (R : List Dt → List (Str × Dt) → List (Str × List Dt) → List (Str × List Dt) → Dt → Prop) : Sp := fun vs H Q _ => ∃ (F : Hp) (p dx : Addr) (fvs : List (Str × V)) (fro : List (Str × Dt)) (fs : List (Str × V)) (qs : List Addr) (os os' : List (Str × List Dt)) (us : List V) (ds : List Dt) (d : Dt),
  vs = .ref p :: us ∧ Same F H ∧ F p = none ∧ H p = some (.ins C dx (fvs ++ fs)) ∧ Dfs F fvs fro ∧ Owl (fun _ => none) F H fs qs os ∧ (p :: qs).Nodup ∧ Dvs F us ds ∧ R ds fro os os' d ∧
  ∀ v F' H', Gr F (eras H qs) F' H' → Owl (fun _ => none) F' H' fs qs os' → Dv F' v d → Q v H'
section
variable {K : PySem.W.Frag} {o o1 o2 : Ow} {en en1 en2 : En} {te ta tb tc : TE} {d x y z : Dt} {ds es : List Dt} {i : Nat} {t : TA} {t1 t2 t3 : TS} {A : ShA} {n m : Str}
theorem lk_own {fvs fs : List (Str × V)} {v : V} (h1 : fvs.lookup n = none) (h2 : fs.lookup n = some v) : (fvs ++ fs).lookup n = some v := by
  rw [List.lookup_append, h1, h2]
  rfl
theorem lk_fro {fvs fs : List (Str × V)} {v : V} (h1 : fvs.lookup n = some v) : (fvs ++ fs).lookup n = some v := by
  rw [List.lookup_append, h1]
  rfl
theorem lk_no {fvs fs : List (Str × V)} (h1 : fvs.lookup n = none) (h2 : fs.lookup n = none) : (fvs ++ fs).lookup n = none := by
  rw [List.lookup_append, h1, h2]
  rfl
theorem evb_sown (c : Cls K A.C) (na : NoAttr K A.C n) (e0 : A.fro.lookup n = none) (e : A.os.lookup n = some ds) : EvB (tFld K (tVar 0) n) (osh A) en (.lst ds) := fun _ _ _ _ _ k Q q => by
  obtain ⟨dx, fvs, fs, qs, h⟩ := k.own
  obtain ⟨a, xs, hl, hH, hd⟩ := h.ow.look e
  exact ⟨.ref A.p, h.s0, A.p, A.C, dx, _, .ref a, rfl, h.hp, c, na, lk_own (h.fr.no e0) hl, q _ _ _ (.refl k.fh) (.lst hH (hd.mono k.fh))⟩
theorem ev_sfro (c : Cls K A.C) (na : NoAttr K A.C n) (e : A.fro.lookup n = some d) : Ev (tFld K (tVar 0) n) (osh A) en d := fun _ _ _ _ _ k Q q => by
  obtain ⟨dx, fvs, fs, qs, h⟩ := k.own
  obtain ⟨v, hl, hd⟩ := h.fr.get e
  exact ⟨.ref A.p, h.s0, A.p, A.C, dx, _, v, rfl, h.hp, c, na, lk_fro hl, q _ _ _ (.refl k.fh) hd⟩
theorem evb_bor (e : (i, d) ∈ A.bor) : EvB (tVar i) (osh A) en d := fun _ _ _ _ _ k Q q => by
  obtain ⟨dx, fvs, fs, qs, h⟩ := k.own
  obtain ⟨v, hl, hd⟩ := h.bo _ e
  exact ⟨v, hl, q _ _ _ (.refl k.fh) (hd.mono k.gr.hh)⟩
theorem evb_fo (e : A.fo = some ds) : EvB (tVar 4) (osh A) en (.lst ds) := fun _ _ _ _ _ k Q q => by
  obtain ⟨dx, fvs, fs, qs, h⟩ := k.own
  obtain ⟨a, xs, e1, _, _, _, e5, e6⟩ := h.fo ds e
  exact ⟨.ref a, e1, q _ _ _ (.refl k.fh) (.lst e5 (e6.mono k.fh))⟩
/-- self.n = e, F's -/
theorem sd_sfro (hv : Ev te (osh A) en d) (c : Cls K A.C) (na : NoAttr K A.C n) (hz : A.z = true) (ho : A.os = []) (hq : A.fq = none) (hf : A.fo = none) (e : A.fro.lookup n = none) (hl : A.fro.length < 1000) : Sd (sFld K (tVar 0) te n) (osh A) en (osh { A with fro := A.fro ++ [(n, d)] }) en := fun D F0 H0 F σ H k q => by
  refine hv _ _ _ _ _ k _ fun v F1 H1 g1 r1 => ?_
  obtain ⟨dx, fvs, fs, qs, h⟩ := k.own
  have k1 := k.grow g1
  have h := h.grow g1
  have ow := h.ow
  rw [ho] at ow
  have hfs : fs = [] ∧ qs = [] := by
    cases ow
    exact ⟨rfl, rfl⟩
  obtain ⟨rfl, rfl⟩ := hfs
  refine ⟨.ref A.p, h.s0, A.p, A.C, dx, _, rfl, h.hp, c, na, by rw [List.append_nil, h.fr.length]; exact hl, q F1 σ _ g1.ff ⟨k1.gr.mut (h.z0 hz) h.fp, k1.env, k1.len, dx, fvs ++ [(n, v)], [], [], ?_⟩⟩
  refine ⟨h.s0, h.z0, h.fp, ?_, h.fr.app (.cons r1 .nil), ?_, h.nd, h.bo, fun ds e => ?_, fun w e => ?_⟩
  · show upd H1 A.p _ A.p = _
    rw [upd_same, List.append_nil, List.append_nil, putF_new (h.fr.no e)]
  · show Owl H0 F1 _ [] [] A.os
    rw [ho]
    exact .nil
  · have e : A.fo = some ds := e
    rw [hf] at e
    cases e
  · have e : A.fq = some w := e
    rw [hq] at e
    cases e
/-- self.n = a new list -/
theorem sd_sown (hv : EvN te (osh A) en ds) (c : Cls K A.C) (na : NoAttr K A.C n) (hz : A.z = true) (hq : A.fq = none) (hf : A.fo = none) (e : A.fro.lookup n = none) (e' : A.os.lookup n = none) (hl : A.fro.length + A.os.length < 1000) : Sd (sFld K (tVar 0) te n) (osh A) en (osh { A with os := A.os ++ [(n, ds)] }) en := fun D F0 H0 F σ H k q => by
  obtain ⟨dx, fvs, fs, qs, h0⟩ := k.own
  refine hv _ _ _ _ _ k _ fun p xs F1 H1 g1 n0 nf ep r1 => ?_
  have k1 := k.grow g1
  have h := h0.grow g1
  have np : p ∉ A.p :: qs := fun w => by
    rcases List.mem_cons.mp w with w | w
    · rw [w, h0.hp] at n0
      cases n0
    · obtain ⟨_, _, ys, hy⟩ := h0.ow.mem w
      rw [hy] at n0
      cases n0
  have npp : p ≠ A.p := fun w => np (by rw [w]; exact List.mem_cons_self)
  have nqp : A.p ∉ qs := (List.nodup_cons.mp h.nd).1
  refine ⟨.ref A.p, h.s0, A.p, A.C, dx, _, rfl, h.hp, c, na, by rw [List.length_append, h.fr.length, h.ow.len]; exact hl, q F1 σ _ g1.ff ⟨k1.gr.mut (h.z0 hz) h.fp, k1.env, k1.len, dx, fvs, fs ++ [(n, .ref p)], qs ++ [p], ?_⟩⟩
  refine ⟨h.s0, h.z0, h.fp, ?_, h.fr, ?_, ?_, h.bo, fun ds e => ?_, fun w e => ?_⟩
  · show upd H1 A.p _ A.p = _
    rw [upd_same, putF_new (lk_no (h.fr.no e) (h.ow.no e')), List.append_assoc]
  · exact (h.ow.oth nqp).snoc (k.gr.hh.free n0) nf (by rw [upd_ne npp]; exact ep) r1
  · obtain ⟨n1, n2⟩ := List.nodup_cons.mp h.nd
    refine List.nodup_cons.mpr ⟨fun w => ?_, List.nodup_append.mpr ⟨n2, List.nodup_cons.mpr ⟨fun w => (by cases w), List.nodup_nil⟩, fun a ha b hb w => np ?_⟩⟩
    · rcases List.mem_append.mp w with w | w
      · exact n1 w
      · exact npp (List.mem_singleton.mp w).symm
    · rw [← List.mem_singleton.mp hb, ← w]
      exact List.mem_cons_of_mem _ ha
  · have e : A.fo = some ds := e
    rw [hf] at e
    cases e
  · have e : A.fq = some w := e
    rw [hq] at e
    cases e
/-- self.n.append(e) -/
theorem sd_sapp (hv : Ev te (osh A) en d) (c : Cls K A.C) (na : NoAttr K A.C n) (e0 : A.fro.lookup n = none) (e : A.os.lookup n = some ds) (hl : ds.length < 100000) : Sd (tDrop (tBM K "list" rAppend (tFld K (tVar 0) n) (tCons te tNil))) (osh A) en (osh { A with os := putL n (ds ++ [d]) A.os }) en := fun D F0 H0 F σ H k q => by
  obtain ⟨dx, fvs, fs, qs, h0⟩ := k.own
  obtain ⟨a, xs, hl1, hH, hd⟩ := h0.ow.look e
  refine ⟨.ref A.p, h0.s0, A.p, A.C, dx, _, .ref a, rfl, h0.hp, c, na, lk_own (h0.fr.no e0) hl1, .inl ⟨rfl, _, .inl (.inl hH)⟩, hv _ _ _ _ _ k _ fun v F1 H1 g1 r1 => ?_⟩
  have k1 := k.grow g1
  have h := h0.grow g1
  have am := h.ow.lmem hl1
  obtain ⟨am0, amf, _⟩ := h.ow.mem am
  have nap : A.p ≠ a := fun w => (List.nodup_cons.mp h.nd).1 (by rw [w]; exact am)
  refine ⟨a, xs, v, rfl, rfl, g1.hh _ _ hH, Nat.lt_of_lt_of_le (by rw [hd.length]; exact hl) (by decide : 100000 ≤ sizeLine), ?_⟩
  refine q F1 σ _ g1.ff ⟨k1.gr.mut am0 amf, k1.env, k1.len, dx, fvs, fs, qs, ?_⟩
  refine ⟨h.s0, h.z0, h.fp, ?_, h.fr, h.ow.put (List.nodup_cons.mp h.nd).2 hl1 ((hd.mono g1.ff).app (.one r1)), h.nd, h.bo, fun ds e => ?_, h.fq⟩
  · rw [upd_ne nap]
    exact h.hp
  · obtain ⟨b, ys, e1, e2, e3, e4, e5, e6⟩ := h.fo ds e
    exact ⟨b, ys, e1, e2, e3, e4, by rw [upd_ne fun w => e2 (by rw [w]; exact List.mem_cons_of_mem _ am)]; exact e5, e6⟩
/-- found = a new list; found.append(e) -/
theorem sd_fnew (hv : EvN te (osh A) en ds) (hf : A.fo = none) (hs : A.sl.contains 4 = false) (hi : 4 < en.length) : Sd (tAsg te (gName 4)) (osh A) en (osh { A with fo := some ds }) (en.set 4 none) := fun D F0 H0 F σ H k q => by
  obtain ⟨dx, fvs, fs, qs, h0⟩ := k.own
  refine hv _ _ _ _ _ k _ fun p xs F1 H1 g1 n0 nf ep r1 => ?_
  have hs' : ∀ j ∈ A.sl, (σ.set 4 (some (.ref p)))[j]? = σ[j]? := fun j hj => List.getElem?_set_ne fun z => by
    rw [z, List.contains_iff_mem.mpr hj] at hs
    cases hs
  have hs4 : 4 ∉ A.sl := fun w => by
    rw [List.contains_iff_mem.mpr w] at hs
    cases hs
  have k1 := (k.grow g1).setNone (i := 4) (v := .ref p) hs4
  have h := (h0.grow g1).slot hs'
  have np : p ∉ A.p :: qs := fun w => by
    rcases List.mem_cons.mp w with w | w
    · rw [w, h0.hp] at n0
      cases n0
    · obtain ⟨_, _, ys, hy⟩ := h0.ow.mem w
      rw [hy] at n0
      cases n0
  refine q F1 _ H1 g1.ff ⟨k1.gr, k1.env, k1.len, dx, fvs, fs, qs, ⟨h.s0, h.z0, h.fp, h.hp, h.fr, h.ow, h.nd, h.bo, fun ds' e => ?_, h.fq⟩⟩
  cases e
  exact ⟨p, xs, List.getElem?_set_self (by rw [k.len]; exact hi), np, k.gr.hh.free n0, nf, ep, r1⟩
theorem sd_fapp (hv : Ev te (osh A) en d) (e : A.fo = some ds) (hl : ds.length < 100000) : Sd (tDrop (tBM K "list" rAppend (tVar 4) (tCons te tNil))) (osh A) en (osh { A with fo := some (ds ++ [d]) }) en := fun D F0 H0 F σ H k q => by
  obtain ⟨dx, fvs, fs, qs, h0⟩ := k.own
  obtain ⟨a, xs, e1, _, _, _, e5, e6⟩ := h0.fo ds e
  refine ⟨.ref a, e1, .inl ⟨rfl, _, .inl (.inl e5)⟩, hv _ _ _ _ _ k _ fun v F1 H1 g1 r1 => ?_⟩
  have k1 := k.grow g1
  have h := h0.grow g1
  obtain ⟨b, ys, f1, f2, f3, f4, f5, f6⟩ := h.fo ds e
  have eb : b = a := by
    have w := f1.symm.trans e1
    cases w
    rfl
  subst eb
  have ey : ys = xs := by
    have w := f5.symm.trans (g1.hh _ _ e5)
    cases w
    rfl
  subst ey
  have nap : A.p ≠ b := fun w => f2 (by rw [w]; exact List.mem_cons_self)
  refine ⟨b, ys, v, rfl, rfl, f5, Nat.lt_of_lt_of_le (by rw [f6.length]; exact hl) (by decide : 100000 ≤ sizeLine), ?_⟩
  refine q F1 σ _ g1.ff ⟨k1.gr.mut f3 f4, k1.env, k1.len, dx, fvs, fs, qs, ?_⟩
  refine ⟨h.s0, h.z0, h.fp, by rw [upd_ne nap]; exact h.hp, h.fr, h.ow.oth fun w => f2 (List.mem_cons_of_mem _ w), h.nd, h.bo, fun ds' e => ?_, h.fq⟩
  cases e
  exact ⟨b, _, f1, f2, f3, f4, upd_same, f6.app (.one r1)⟩
/-- self.n.append(self.m(..)), where the call changes the own lists -/
theorem sd_bentApp {R : List Dt → List (Str × Dt) → List (Str × List Dt) → List (Str × List Dt) → Dt → Prop} {os' : List (Str × List Dt)} {ws ws' : List Dt} (c : Cls K A.C) (na : NoAttr K A.C n) (ha : EvA t (osh A) en ds) (r : R ds A.fro A.os os' d)
    (hm : A.fro.lookup m = none) (hm' : A.os.lookup m = none) (e0 : A.fro.lookup n = none) (e : A.os.lookup n = some ws) (e' : os'.lookup n = some ws') (hl : ws'.length < 100000) (hf : A.fo = none) (hq : A.fq = none) :
    Sd (tDrop (tBM K "list" rAppend (tFld K (tVar 0) n) (tCons (tMeth A.C m (spBent A.C R) [] E0 (tVar 0) t) tNil))) (osh A) en (osh { A with os := putL n (ws' ++ [d]) os' }) en := fun D F0 H0 F σ H k q => by
  obtain ⟨dx, fvs, fs, qs, h0⟩ := k.own
  obtain ⟨a, xs, hl1, hH, hd⟩ := h0.ow.look e
  refine ⟨.ref A.p, h0.s0, A.p, A.C, dx, _, .ref a, rfl, h0.hp, c, na, lk_own (h0.fr.no e0) hl1, .inl ⟨rfl, _, .inl (.inl hH)⟩, ?_⟩
  refine ⟨.ref A.p, h0.s0, A.p, dx, _, rfl, h0.hp, lk_no (h0.fr.no hm) (h0.ow.no hm'), ha _ _ _ _ _ k _ fun us F1 H1 g1 r1 => ?_⟩
  have k1 := k.grow g1
  have h := h0.grow g1
  obtain ⟨n1, n2⟩ := List.nodup_cons.mp h.nd
  refine ⟨F1, A.p, dx, fvs, A.fro, fs, qs, A.os, os', us, ds, d, by rw [List.append_nil], g1.fh, h.fp, h.hp, h.fr, h.ow.h0 (fun _ _ => rfl), h.nd, r1, r, fun v F2 H2 g2 ow2 r2 => ?_⟩
  have hnq : ∀ b ob, H0 b = some ob → b ∉ qs := fun b ob hb w => by
    rw [(h.ow.mem w).1] at hb
    cases hb
  have g3 : Gr F0 H0 F2 H2 := ⟨k1.gr.ff.trans g2.ff, g2.fh, fun b ob hb => g2.hh b ob ((eras_out (hnq b ob hb)).trans (k1.gr.hh b ob hb)), fun b ob hb hn => g2.ap b ob ((eras_out (hnq b ob hb)).trans (k1.gr.hh b ob hb)) (k1.gr.ap b ob hb hn)⟩
  obtain ⟨a', ys, hl2, hH2, hd2⟩ := ow2.look e'
  have ea : a' = a := by
    have w := hl2.symm.trans hl1
    cases w
    rfl
  subst ea
  have am := ow2.lmem hl2
  have ow3 := ow2.h0 (G := H0) fun b hb => (h.ow.mem hb).1
  obtain ⟨am0, amf, _⟩ := ow3.mem am
  have nap : A.p ≠ a' := fun w => n1 (by rw [w]; exact am)
  have hpp : eras H1 qs A.p = some (.ins A.C dx (fvs ++ fs)) := (eras_out n1).trans h.hp
  refine ⟨a', ys, v, rfl, rfl, hH2, Nat.lt_of_lt_of_le (by rw [hd2.length]; exact hl) (by decide : 100000 ≤ sizeLine), ?_⟩
  refine q F2 σ _ (g1.ff.trans g2.ff) ⟨g3.mut am0 amf, fun j d' hd => let ⟨u, hu, ru⟩ := k1.env j d' hd; ⟨u, hu, ru.mono g2.ff⟩, k1.len, dx, fvs, fs, qs, ?_⟩
  refine ⟨h.s0, h.z0, g2.ap _ _ hpp h.fp, ?_, h.fr.mono g2.ff, ow3.put n2 hl2 (hd2.app (.one r2)), h.nd, h.bo, fun ds e => ?_, h.fq⟩
  · rw [upd_ne nap]
    exact g2.hh _ _ hpp
  · have e : A.fo = some ds := e
    rw [hf] at e
    cases e
/-- t ends the def with d; what is own then -/
def BlkO (t : TS) (o : Ow) (en : En) (o' : Ow) (en' : En) (d : Dt) : Prop := ∀ (D : Ends) (F0 H0 F : Hp) (σ : St) (H : Hp), Ok F0 H0 o en F σ H → (∀ v F' σ' H', Ok F0 H0 o' en' F' σ' H' → Dv F' v d → D.rt v H') → t D σ H
theorem bo_seq (h1 : Sd t1 o en o1 en1) (h2 : BlkO t2 o1 en1 o2 en2 d) : BlkO (tSeq t1 t2) o en o2 en2 d := fun D F0 H0 F σ H k q =>
  h1 _ F0 H0 F σ H k fun F1 σ1 H1 _ k1 => h2 D F0 H0 F1 σ1 H1 k1 q
theorem bo_ret (h : Ev te o en d) : BlkO (tRet te) o en o en d := fun D F0 H0 F σ H k q => h _ _ _ _ _ k _ fun v F1 H1 g1 r1 => q v F1 σ H1 (k.grow g1) r1
/-- a list that is read alone, and more -/
theorem evn_catB {xs ys : List Dt} (ha : EvB ta o en (.lst xs)) (hb : EvB tb o en (.lst ys)) (f1 : xs.all Dt.flat = true) (f2 : ys.all Dt.flat = true) (hl : xs.length + ys.length ≤ 1000) : EvN (tOp rAddA ta tb) o en (xs ++ ys) := fun _ _ _ _ _ k Q q => by
  refine ha _ _ _ _ _ k _ fun v F1 H1 g1 r1 => ?_
  refine hb _ _ _ _ _ (k.grow g1) _ fun w F2 H2 g2 r2 => ?_
  have r1 := r1.mono g2.hh
  cases r1 with
  | lst h1 d1 =>
  cases r2 with
  | lst h2 d2 =>
  refine .inr (.inr ⟨_, _, _, _, rfl, rfl, h1, h2, Nat.le_of_lt (small1000 (by rw [d1.length, d2.length]; exact hl)), fun p hp => ?_⟩)
  have g := g1.trans g2
  exact q p _ F2 _ (g.trans (Gr.own g2.fh hp)) (g.hh.free hp) (g2.fh.free hp) upd_same ((d1.flat f1).app (d2.flat f2))
theorem flat_map {α : Type} {f : α → Dt} (h : ∀ x, (f x).flat = true) : ∀ us : List α, (us.map f).all Dt.flat = true
  | [] => rfl
  | u :: us => by
    rw [List.map_cons, List.all_cons, h u, flat_map h us]
    rfl
theorem evn_listBS {α : Type} {f : α → Dt} {us : List α} {k : Bool} (ha : EvB ta o en (S k f us)) (hf : ∀ x, (f x).flat = true) : EvN (tCB (rListA K) (tCons ta tNil)) o en (us.map f) := by
  cases k with
  | false => exact ev_listB ha (flat_map hf us)
  | true =>
    intro _ _ _ _ _ k Q q
    refine eb_cons ha eb_nil _ _ _ _ _ k _ fun vs F1 H1 g1 r1 => ?_
    cases r1 with
    | cons r1 r2 =>
      cases r2
      cases r1 with
      | tup h hs => exact ⟨_, _, rfl, .inr (.inl (.inl h)), fun l hl => q l _ F1 _ (g1.trans (Gr.own g1.fh hl)) (g1.hh.free hl) (g1.fh.free hl) upd_same (hs.flat (flat_map hf us))⟩
/-- C(net, turned, rows): two are read alone -/
def spInitS (C : Addr) (R : List Dt → List (Str × Dt) → Prop) : Sp := fun vs H Q _ => ∃ (F : Hp) (p dx : Addr) (v1 v2 v3 : V) (d1 d2 d3 : Dt) (fds : List (Str × Dt)), vs = [.ref p, v1, v2, v3] ∧ Same F H ∧ F p = none ∧ H p = some (.ins C dx []) ∧ Dv F v1 d1 ∧ Dv (era H p) v2 d2 ∧ Dv (era H p) v3 d3 ∧ R [d1, d2, d3] fds ∧
  ∀ F' H' dx' fvs, Gr F (era H p) F' H' → F' p = none → H' p = some (.ins C dx' fvs) → Dfs F' fvs fds → Q .non H'
theorem ev_makeS {R : List Dt → List (Str × Dt) → Prop} {C : Addr} {fds : List (Str × Dt)} (ha : Ev ta o en x) (hb : EvB tb o en y) (hc : EvB tc o en z) (r : R [x, y, z] fds) : Ev (tMake C (spInitS C R) [] E0 (tCons ta (tCons tb (tCons tc tNil)))) o en (.obj C fds) := fun _ _ _ _ _ k Q q => by
  refine ha _ _ _ _ _ k _ fun v1 F1 H1 g1 r1 => ?_
  refine hb _ _ _ _ _ (k.grow g1) _ fun v2 F2 H2 g2 r2 => ?_
  refine hc _ _ _ _ _ ((k.grow g1).grow g2) _ fun v3 F3 H3 g3 r3 x0 dx hx hdx hne => ?_
  have g := (g1.trans g2).trans g3
  have sm := same_make (C := C) hx hdx
  refine ⟨F3, x0, dx, v1, v2, v3, x, y, z, fds, rfl, g3.fh.trans (sm.trans era_same), g3.fh.free hx, upd_same, (r1.mono g2.ff).mono g3.ff, (r2.mono g3.hh).mono sm, r3.mono sm, r, fun F' H' dx' fvs g4 nf h hd => ⟨rfl, ?_⟩⟩
  exact q _ _ _ (gr_make g hx hdx g4 nf h) (.obj upd_same (hd.mono (same_new nf)))
section
variable {P : Program} {w : World} {mg : Str → Option Value} {base : Heap} {fx qual : Str} {st : Stmt} {f : Addr} {fd : FuncData} {N ps : List Str} {lv : Nat} {C : Addr}
def startS (N : List Str) (d : Dt) : En := none :: some d :: none :: none :: List.replicate (N.length - 4) none
theorem start_get {N : List Str} {vs : List V} {j : Nat} {v : V} (h : vs[j]? = some v) : (L2.start N vs)[j]? = some (some v) := by
  unfold L2.start
  rw [List.getElem?_append_left (by rw [List.length_map]; exact (List.getElem?_eq_some_iff.mp h).1), List.getElem?_map, h]
  rfl
theorem fn_initS {R : List Dt → List (Str × Dt) → Prop} (F : Fun K fx qual st f fd) (S : FnScope N ps (defScope st)) (len : ps.length = 4) (lenN : 4 ≤ N.length)
    (hbody : ∀ (cdv : Value) (A : Around) (outer : List Env) (s : Shared) (H : Hp) (E : XK), Room lv (A.deeper (PyProof.Rows.envOfC qual (defScope st) s.heap.objs.size f cdv)) → ∀ p d1 d2 d3 fds, R [d1, d2, d3] fds →
      ∃ t, PSs (cxOf CX0 P w K mg base N qual (defScope st) f cdv A outer s H E).nox (defBody st) t ∧ ∃ A' en', A'.p = p ∧ A'.C = C ∧ fds = A'.fro ++ A'.os.map (fun x => (x.1, .lst x.2)) ∧ Sd t (osh ⟨true, p, C, [(2, d2), (3, d3)], [], [], none, none⟩) (startS N d1) (osh A') en') : FnOk P w K mg base CX0 (lv + 1) f fd ps (spInitS C R) := by
  refine F.ok S (fun vs H Q E h => ?_) (fun cdv A outer s H vs Q E hr h => ?_)
  · obtain ⟨F, p, dx, v1, v2, v3, d1, d2, d3, fds, rfl, _⟩ := h
    exact len.symm
  · obtain ⟨F, p, dx, v1, v2, v3, d1, d2, d3, fds, rfl, e, nf, hp, r1, r2, r3, r, q⟩ := h
    obtain ⟨t, ht, A', en', ep, ec, ef, hb⟩ := hbody cdv A outer s H E hr p d1 d2 d3 fds r
    subst ep
    have k0 : Ok F (era H A'.p) (osh ⟨true, A'.p, C, [(2, d2), (3, d3)], [], [], none, none⟩) (startS N d1) F (L2.start N [.ref A'.p, v1, v2, v3]) H := by
      refine ⟨⟨Same.refl F, fun b ob hb => ?_, era_same, fun _ _ _ h => h⟩, fun j d' hd => ?_, ?_, dx, [], [], [], ?_⟩
      · exact e b ob hb
      · match j, hd with
        | 0, hd => cases hd
        | 1, hd =>
          cases hd
          exact ⟨v1, start_get rfl, r1⟩
        | 2, hd => cases hd
        | 3, hd => cases hd
        | j + 4, hd =>
          have hd : (List.replicate (N.length - 4) (none : Option Dt))[j]? = some (some d') := hd
          rw [List.getElem?_replicate] at hd
          split at hd <;> cases hd
      · unfold L2.start startS
        simp only [List.length_append, List.length_map, List.length_cons, List.length_nil, List.length_replicate]
        omega
      · refine ⟨start_get rfl, fun _ => era_self, nf, hp, .nil, .nil, List.nodup_cons.mpr ⟨fun z => (by cases z), List.nodup_nil⟩, fun x hx => ?_, fun ds e => (by cases e), fun w e => (by cases e)⟩
        rcases List.mem_cons.mp hx with rfl | hx
        · exact ⟨v2, start_get rfl, r2⟩
        · rw [List.mem_singleton.mp hx]
          exact ⟨v3, start_get rfl, r3⟩
    refine ⟨t, ht, hb _ _ _ _ _ _ k0 fun F' σ' H' _ k => ?_⟩
    obtain ⟨dx', fvs, fs, qs, h⟩ := k.own
    obtain ⟨n1, n2⟩ := List.nodup_cons.mp h.nd
    have hk : ∀ b, b ∈ qs → (fun b => if b ∈ qs then H' b else F' b) b = H' b := fun b hb => if_pos hb
    have hn : ∀ b, b ∉ qs → (fun b => if b ∈ qs then H' b else F' b) b = F' b := fun b hb => if_neg hb
    have sF : Same F' (fun b => if b ∈ qs then H' b else F' b) := fun b ob hb => by
      by_cases z : b ∈ qs
      · rw [(h.ow.mem z).2.1] at hb
        cases hb
      · exact (hn b z).trans hb
    refine q (fun b => if b ∈ qs then H' b else F' b) H' dx' (fvs ++ fs) ⟨k.gr.ff.trans sF, fun b ob hb => ?_, k.gr.hh, fun b ob hb hn0 => ?_⟩ ((hn _ n1).trans h.fp) (by rw [← ec]; exact h.hp) ?_
    · by_cases z : b ∈ qs
      · exact (hk b z).symm.trans hb
      · exact k.fh b ob ((hn b z).symm.trans hb)
    · by_cases z : b ∈ qs
      · rw [(h.ow.mem z).1] at hb
        cases hb
      · exact (hn b z).trans (k.gr.ap b ob hb hn0)
    · rw [ef]
      exact (h.fr.mono sF).app (h.ow.frz sF hk)
theorem fn_bent {R : List Dt → List (Str × Dt) → List (Str × List Dt) → List (Str × List Dt) → Dt → Prop} (F : Fun K fx qual st f fd) (S : FnScope N ps (defScope st)) (len : ∀ ds fro os os' d, R ds fro os os' d → ds.length + 1 = ps.length)
    (hbody : ∀ (cdv : Value) (A : Around) (outer : List Env) (s : Shared) (H : Hp) (E : XK), Room lv (A.deeper (PyProof.Rows.envOfC qual (defScope st) s.heap.objs.size f cdv)) → ∀ p fq ds fro os os' d, R ds fro os os' d →
      ∃ t, PSs (cxOf CX0 P w K mg base N qual (defScope st) f cdv A outer s H E).nox (defBody st) t ∧ ∃ A' en', A'.os = os' ∧ A'.fq = some fq ∧ BlkO t (osh ⟨false, p, C, [], fro, os, none, some fq⟩) (startI N ds) (osh A') en' d) : FnOk P w K mg base CX0 (lv + 1) f fd ps (spBent C R) := by
  refine F.ok S (fun vs H Q E h => ?_) (fun cdv A outer s H vs Q E hr h => ?_)
  · obtain ⟨F, p, dx, fvs, fro, fs, qs, os, os', us, ds, d, rfl, _, _, _, _, _, _, hv, r, _⟩ := h
    rw [List.length_cons, hv.length]
    exact len ds fro os os' d r
  · obtain ⟨F, p, dx, fvs, fro, fs, qs, os, os', us, ds, d, rfl, e, nf, hp, hfr, how, nd, hv, r, q⟩ := h
    obtain ⟨t, ht, A', en', eo, ef, hb⟩ := hbody cdv A outer s H E hr p (fs, qs) ds fro os os' d r
    have hl := hv.length
    have k0 : Ok F (eras H qs) (osh ⟨false, p, C, [], fro, os, none, some (fs, qs)⟩) (startI N ds) F (L2.start N (.ref p :: us)) H := by
      refine ⟨⟨Same.refl F, e, eras_same, fun _ _ _ h => h⟩, fun j d' hd => ?_, ?_, dx, fvs, fs, qs, ?_⟩
      · cases j with
        | zero => cases hd
        | succ j =>
          have hd : (ds.map some ++ List.replicate (N.length - (ds.length + 1)) none)[j]? = some (some d') := hd
          by_cases z : j < ds.length
          · rw [List.getElem?_append_left (by rw [List.length_map]; exact z), List.getElem?_map] at hd
            cases q : ds[j]? with
            | none => rw [q] at hd; cases hd
            | some d1 =>
              rw [q] at hd
              have hd' : d1 = d' := Option.some.inj (Option.some.inj hd)
              subst hd'
              obtain ⟨v, hv, r⟩ := hv.get q
              exact ⟨v, start_get hv, r⟩
          · rw [List.getElem?_append_right (by rw [List.length_map]; omega), List.getElem?_replicate] at hd
            split at hd <;> cases hd
      · show (us.map some ++ List.replicate (N.length - (us.length + 1)) none).length + 1 = (ds.map some ++ List.replicate (N.length - (ds.length + 1)) none).length + 1
        rw [List.length_append, List.length_append, List.length_map, List.length_map, List.length_replicate, List.length_replicate, hl]
      · exact ⟨start_get rfl, fun z => (by cases z), nf, hp, hfr, how.h0 fun b hb => eras_in hb, nd, fun x hx => (by cases hx), fun ds e => (by cases e), fun w e => (by cases e; exact ⟨rfl, rfl⟩)⟩
    refine ⟨t, ht, hb _ _ _ _ _ _ k0 fun v F' σ' H' k rv => ?_⟩
    obtain ⟨dx', fvs', fs', qs', h⟩ := k.own
    obtain ⟨e1, e2⟩ := h.fq _ ef
    have ow := h.ow
    rw [e1, e2, eo] at ow
    exact q v F' H' k.gr (ow.h0 fun _ _ => rfl) rv
end
end
end Dl

/-! New lists of new lists: told, compared, spoilt. -/
namespace Dl
open PySem L2
/-- at p stands a list of lists of ints, all new since H -/
structure Old (H F' H' : Hp) (p : Addr) (qs : List Addr) (nss : List (List Int)) : Prop where
  nd : (p :: qs).Nodup
  fr : ∀ q ∈ p :: qs, H q = none ∧ F' q = none
  hp : H' p = some (.lst (qs.map V.ref))
  len : qs.length = nss.length
  it : ∀ (j : Nat) (q : Addr) (ns : List Int), qs[j]? = some q → nss[j]? = some ns → H' q = some (.lst (ns.map V.int))
def EvL (te : TE) (o : Ow) (en : En) (nss : List (List Int)) : Prop := ∀ (F0 H0 F : Hp) (σ : St) (H : Hp), Ok F0 H0 o en F σ H → ∀ Q : VK,
  (∀ p qs F' H', Gr F H F' H' → Old H F' H' p qs nss → Q (.ref p) H') → te σ H Q
section
variable {K : PySem.W.Frag} {o o1 o2 : Ow} {en en1 en2 : En} {te ta tb tc : TE} {d x y z : Dt} {ds es : List Dt} {tt tu : TT} {i : Nat} {t : TA} {t1 t2 t3 : TS} {r : Ret} {a b : Int} {g : TG} {js : List Nat} {nss : List (List Int)}
theorem evl_lc {α : Type} {wi : TI} {vs : List Nat} {xs : List α} {f : α → Dt} (out : α → List Int) (hi : Itd wi o en (xs.map f)) (hv : ∀ j ∈ vs, j ∉ o.sl) (hlen : xs.length < 100000)
    (body : ∀ x, x ∈ xs → ∃ en1 js, Tg g (f x) o (wipeE en vs) en1 js ∧ (∀ j ∈ js, j ∈ vs) ∧ EvN te o en1 ((out x).map .int)) : EvL (tLc wi g tYes te vs) o en (xs.map out) := fun F0 H0 F σ H k Q q => by
  refine hi _ _ _ _ _ k _ fun J F1 H1 g1 y D hD => ?_
  have k1 := k.grow g1
  refine ⟨fun i m H => i + m = xs.length ∧ ∃ F2 qs, Gr F1 H1 F2 H ∧ Old H1 F2 H D qs ((xs.take i).map out),
    ⟨xs.length, by omega, F1, [], Gr.own g1.fh hD, ⟨List.nodup_cons.mpr ⟨fun z => (by cases z), List.nodup_nil⟩, fun q hq => (by rw [List.mem_singleton.mp hq]; exact ⟨hD, g1.fh.free hD⟩), upd_same, rfl, fun j q ns h1 h2 => (by cases h1)⟩⟩, fun i' m H2 hW => ?_⟩
  obtain ⟨em, F2, qs, g2, old⟩ := hW
  obtain ⟨y1, y2⟩ := y F2 H2 g2.ff g2.fh i'
  cases hx : xs[i']? with
  | none =>
    have hl : xs.length ≤ i' := List.getElem?_eq_none_iff.mp hx
    refine .inl ⟨y2 (by rw [List.length_map]; exact hl), ?_⟩
    rw [List.take_of_length_le hl] at old
    exact q D qs F2 H2 (g1.trans g2) ⟨old.nd, fun q hq => ⟨g1.hh.free (old.fr q hq).1, (old.fr q hq).2⟩, old.hp, old.len, old.it⟩
  | some x =>
    have hl : i' < xs.length := (List.getElem?_eq_some_iff.mp hx).1
    have hql : qs.length = i' := by rw [old.len, List.length_map, List.length_take]; omega
    obtain ⟨go, yl⟩ := y1 (f x) (by rw [List.getElem?_map, hx]; rfl)
    have hk : (xs.take (i' + 1)).map out = (xs.take i').map out ++ [out x] := by
      rw [List.take_add_one, hx, List.map_append]
      rfl
    refine .inr ⟨go, fun H' => ∃ F2 qs, Gr F1 H1 F2 H' ∧ Old H1 F2 H' D qs ((xs.take (i' + 1)).map out), fun H' h' => ⟨m - 1, by omega, by omega, h'⟩, fun v H3 hy => ?_⟩
    obtain ⟨F3, g3, r3⟩ := yl v H3 hy
    obtain ⟨en1, js, ht, hjs, helt⟩ := body x (List.mem_of_getElem? hx)
    have g23 := g2.trans g3
    have k3 := (k1.grow g23).wipe hv
    refine ht _ _ _ _ _ _ k3 r3 _ fun σ4 k4 l4 e4 => ⟨?_, ?_⟩
    · exact wipe_same (l4.trans (wipe_length _ _)) fun j hj => e4 j fun z => hj (hjs j z)
    · unfold tYes
      dsimp only
      rw [if_pos rfl]
      refine helt _ _ _ _ _ k4 _ fun p ys F5 H5 g5 n0 nf hp r5 => ?_
      have g25 := g3.trans g5
      have g15 := g2.trans g25
      obtain ⟨fD1, fD2⟩ := old.fr D List.mem_cons_self
      have hHD5 := g25.hh D _ old.hp
      have fD5 := g25.ap D _ old.hp fD2
      have hqH : ∀ q ∈ qs, ∃ ns, H2 q = some (.lst (List.map V.int ns)) := fun q hq => by
        obtain ⟨j, hj⟩ := List.getElem?_of_mem hq
        have hjl : j < ((xs.take i').map out).length := by rw [← old.len]; exact (List.getElem?_eq_some_iff.mp hj).1
        exact ⟨_, old.it j q _ hj (List.getElem?_eq_getElem hjl)⟩
      have np : p ∉ D :: qs := fun w => by
        rcases List.mem_cons.mp w with w | w
        · rw [w, g3.hh D _ old.hp] at n0
          cases n0
        · obtain ⟨ns, hns⟩ := hqH p w
          rw [g3.hh p _ hns] at n0
          cases n0
      have hDp : D ≠ p := fun w => np (by rw [← w]; exact List.mem_cons_self)
      have h1p : H1 p = none := g23.hh.free n0
      obtain ⟨n1, n2⟩ := List.nodup_cons.mp old.nd
      refine ⟨qs.map V.ref, hHD5, ?_, F5, qs ++ [p], g15.mut fD1 fD5, ⟨?_, fun q' hm => ?_, by rw [upd_same, List.map_append]; rfl, by rw [List.length_append, old.len, hk, List.length_append]; rfl, fun j q' ns h1 h2 => ?_⟩⟩
      · rw [List.length_map, hql]
        exact Nat.lt_of_lt_of_le (show i' < 100000 by omega) (by decide : 100000 ≤ sizeLine)
      · refine List.nodup_cons.mpr ⟨fun z => ?_, List.nodup_append.mpr ⟨n2, List.nodup_cons.mpr ⟨fun z => (by cases z), List.nodup_nil⟩, fun a ha b hb e => np ?_⟩⟩
        · rcases List.mem_append.mp z with z | z
          · exact n1 z
          · exact hDp (List.mem_singleton.mp z)
        · rw [← List.mem_singleton.mp hb, ← e]
          exact List.mem_cons_of_mem _ ha
      · rcases List.mem_cons.mp hm with z | z
        · rw [z]
          exact ⟨fD1, fD5⟩
        rcases List.mem_append.mp z with z | z
        · obtain ⟨ns, hns⟩ := hqH q' z
          exact ⟨(old.fr q' (List.mem_cons_of_mem _ z)).1, g25.ap q' _ hns (old.fr q' (List.mem_cons_of_mem _ z)).2⟩
        · rw [List.mem_singleton.mp z]
          exact ⟨h1p, nf⟩
      · rw [hk] at h2
        by_cases hj : j < qs.length
        · rw [List.getElem?_append_left hj] at h1
          rw [List.getElem?_append_left (by rw [← old.len]; exact hj)] at h2
          have hH := old.it j q' ns h1 h2
          have nq : q' ≠ D := fun w => n1 (by rw [← w]; exact List.mem_of_getElem? h1)
          rw [upd_ne nq]
          exact g25.hh q' _ hH
        · rw [List.getElem?_append_right (by omega)] at h1
          rw [List.getElem?_append_right (by rw [← old.len]; omega), ← old.len] at h2
          cases hjj : j - qs.length with
          | succ c => rw [hjj] at h1; cases h1
          | zero =>
            rw [hjj] at h1 h2
            cases h1
            cases h2
            rw [upd_ne hDp.symm, hp, r5.ints]
def spL (R : List Dt → List (List Int) → Prop) : Sp := fun vs H Q _ => ∃ (F : Hp) (ds : List Dt) (nss : List (List Int)), Same F H ∧ Dvs F vs ds ∧ R ds nss ∧ ∀ p qs F' H', Gr F H F' H' → Old H F' H' p qs nss → Q (.ref p) H'
theorem evl_call {R : List Dt → List (List Int) → Prop} (ha : EvA t o en ds) (r : R ds nss) : EvL (tCall (spL R) [] E0 t) o en nss := fun _ _ _ _ _ k Q q => by
  refine ha _ _ _ _ _ k _ fun vs F1 H1 g1 r1 => ?_
  exact ⟨F1, ds, nss, g1.fh, by rw [List.append_nil]; exact r1, r, fun p qs F2 H2 g2 old => q p qs F2 H2 (g1.trans g2) ⟨old.nd, fun q hq => ⟨g1.hh.free (old.fr q hq).1, (old.fr q hq).2⟩, old.hp, old.len, old.it⟩⟩
/-- i = a new list of new lists -/
theorem sd_setL (h : EvL te noO en nss) (hil : i < en.length) : Sd (tAsg te (gName i)) noO en (oll i nss) (en.set i none) := fun D F0 H0 F σ H k q => by
  refine h _ _ _ _ _ k _ fun p qs F1 H1 g1 old => ?_
  have k1 := (k.grow g1).setNone (i := i) (v := .ref p) (fun z => (by cases z))
  exact q F1 _ H1 g1.ff ⟨k1.gr, k1.env, k1.len, p, qs, List.getElem?_set_self (by rw [k.len]; exact hil), old.hp, old.nd, fun q hq => ⟨k.gr.hh.free (old.fr q hq).1, (old.fr q hq).2⟩, old.len, old.it⟩
theorem evb_oll : EvB (tVar i) (oll i nss) en (L (L .int) nss) := fun _ _ _ _ _ k Q q => by
  obtain ⟨p, qs, es, hp, nd, hf, hql, hq⟩ := k.own
  refine ⟨.ref p, es, q _ _ _ (.refl k.fh) (.lst hp ?_)⟩
  have all : ∀ {H : Hp} (qs' : List Addr) (nss' : List (List Int)), qs'.length = nss'.length → (∀ (j : Nat) (q : Addr) (ns : List Int), qs'[j]? = some q → nss'[j]? = some ns → H q = some (.lst (ns.map V.int))) →
      Dvs H (qs'.map V.ref) (nss'.map (L .int)) := by
    intro H qs'
    induction qs' with
    | nil =>
      intro nss' hl _
      cases nss' with
      | nil => exact .nil
      | cons _ _ => cases hl
    | cons c qs' ih =>
      intro nss' hl hh
      cases nss' with
      | nil => cases hl
      | cons ns nss' => exact .cons (.lst (hh 0 c ns rfl rfl) (Dvs.of (fun i => .int i) ns)) (ih nss' (Nat.succ.inj hl) fun j q ns h1 h2 => hh (j + 1) q ns h1 h2)
  exact all qs nss hql hq
/-- for j in told: if not isinstance(j, list): ..; j.append(None) .. from then on told is nobody's -/
theorem sd_spoilL {j : Nat} {tb1 : TS} {en' : En} (hij : i ≠ j) (hln : ∀ ns ∈ nss, ns.length < 50000) (hl : nss.length < 50000)
    (test : ∀ (D : Ends) (σ : St) (H : Hp) (q : Addr) (xs : List V), σ[j]? = some (some (.ref q)) → H q = some (.lst xs) → D.nx σ H → tb1 D σ H)
    (le : LeE en' en) (hj : j < en.length) (hjn : ∀ d, en'[j]? ≠ some (some d)) : Sd (tFor (iAny K (tVar i)) (gName j) (tSeq tb1 (tDrop (tBM K "list" rAppend (tVar j) (tCons (tC .non) tNil))))) (oll i nss) en noO en' := fun D F0 H0 F σ H k q => by
  obtain ⟨p, qs, es, hp, nd, hf, hql, hq⟩ := k.own
  obtain ⟨n1, n2⟩ := List.nodup_cons.mp nd
  refine .inl ⟨.ref p, es, p, rfl, ⟨_, .inl (.inl hp)⟩, ?_⟩
  refine ⟨fun i' m σ1 H1 => i' + m = qs.length ∧ Ok F0 H0 noO en' F σ1 H1 ∧ H1 p = some (.lst (qs.map V.ref)) ∧ ∀ q ∈ qs, ∃ xs, H1 q = some (.lst xs) ∧ xs.length < 50000 + i',
    ⟨qs.length, by omega, ⟨k.gr, (k.weak le).env, (k.weak le).len, True.intro⟩, hp, fun q' hm => ?_⟩, fun i' m σ1 H1 hW => ?_⟩
  · obtain ⟨c, hc⟩ := List.getElem?_of_mem hm
    have hcl : c < nss.length := by rw [← hql]; exact (List.getElem?_eq_some_iff.mp hc).1
    have e := List.getElem?_eq_getElem hcl
    exact ⟨_, hq c q' _ hc e, by rw [List.length_map]; have := hln _ (List.mem_of_getElem? e); omega⟩
  · obtain ⟨em, k1, hp1, hq1⟩ := hW
    cases hx : qs[i']? with
    | none =>
      have hl' : qs.length ≤ i' := List.getElem?_eq_none_iff.mp hx
      exact .inl ⟨⟨_, .inl (.inl hp1), by rw [List.length_map]; exact hl'⟩, q F σ1 H1 (Same.refl F) k1⟩
    | some u =>
      have hil : i' < qs.length := (List.getElem?_eq_some_iff.mp hx).1
      have hum : u ∈ qs := List.mem_of_getElem? hx
      obtain ⟨xs, hxs, hxl⟩ := hq1 u hum
      refine .inr ⟨⟨_, .ref u, .inl (.inl hp1), by rw [List.getElem?_map, hx]; rfl⟩, fun σ' H' => Ok F0 H0 noO en' F σ' H' ∧ H' p = some (.lst (qs.map V.ref)) ∧ ∀ q ∈ qs, ∃ xs, H' q = some (.lst xs) ∧ xs.length < 50000 + (i' + 1), fun σ' H' h' => ⟨m - 1, by omega, by omega, h'⟩, fun x H2 hy => ?_⟩
      obtain ⟨rfl, hx2⟩ := hy
      have ex : V.ref u = x := by
        have w := hx2 _ (.inl (.inl hp1))
        rw [List.getElem?_map, hx] at w
        exact Option.some.inj w
      subst ex
      have nup : p ≠ u := fun z => n1 (by rw [z]; exact hum)
      have k2 := k1.setNone (i := j) (v := .ref u) (fun z => (by cases z))
      have le2 : LeE en' (en'.set j none) := by
        have e : en'.set j none = en' := by
          refine List.ext_getElem? fun c => ?_
          by_cases z : j = c
          · subst z
            rw [List.getElem?_set]
            rw [if_pos rfl]
            by_cases l : j < en'.length
            · rw [if_pos l]
              cases hc : en'[j]? with
              | none =>
                rw [List.getElem?_eq_getElem l] at hc
                cases hc
              | some o =>
                cases o with
                | none => rfl
                | some d => exact absurd hc (hjn d)
            · rw [if_neg l, List.getElem?_eq_none_iff.mpr (by omega)]
          · rw [List.getElem?_set_ne z]
        rw [e]
        exact LeE.refl _
      have k2 := k2.weak le2
      have hjl : j < σ1.length := by
        rw [k1.len, le.length]
        exact hj
      have ej : (σ1.set j (some (.ref u)))[j]? = some (some (.ref u)) := List.getElem?_set_self hjl
      refine test _ _ _ u xs ej hxs ?_
      refine ⟨.ref u, ej, .inl ⟨rfl, _, .inl (.inl hxs)⟩, u, xs, .non, rfl, rfl, hxs, ?_, ?_⟩
      · exact Nat.lt_of_lt_of_le (show xs.length < 100000 by omega) (by decide : 100000 ≤ sizeLine)
      · obtain ⟨a1, a2⟩ := hf u (List.mem_cons_of_mem _ hum)
        refine ⟨⟨k2.gr.mut a1 a2, k2.env, k2.len, True.intro⟩, by rw [upd_ne nup]; exact hp1, fun q' hm => ?_⟩
        by_cases z : q' = u
        · subst z
          exact ⟨_, upd_same, by rw [List.length_append, List.length_singleton]; omega⟩
        · obtain ⟨ys, hys, hyl⟩ := hq1 q' hm
          exact ⟨ys, by rw [upd_ne z]; exact hys, by omega⟩
end
section
variable {K : PySem.W.Frag} {P : Program} {w : World} {mg : Str → Option Value} {base : Heap} {fx qual : Str} {st : Stmt} {f : Addr} {fd : FuncData} {N ps : List Str} {lv : Nat}
theorem fn_oll {R : List Dt → List (List Int) → Prop} (F : Fun K fx qual st f fd) (S : FnScope N ps (defScope st)) (len : ∀ ds d, R ds d → ds.length = ps.length)
    (hbody : ∀ (cdv : Value) (A : Around) (outer : List Env) (s : Shared) (H : Hp) (E : XK), Room lv (A.deeper (PyProof.Rows.envOfC qual (defScope st) s.heap.objs.size f cdv)) → ∀ ds nss, R ds nss →
      ∃ te, PSs (cxOf CX0 P w K mg base N qual (defScope st) f cdv A outer s H E).nox (defBody st) (tRet te) ∧ EvL te noO (startE N ds) nss) : FnOk P w K mg base CX0 (lv + 1) f fd ps (spL R) := by
  refine F.ok S (fun vs H Q E h => ?_) (fun cdv A outer s H vs Q E hr h => ?_)
  · obtain ⟨F, ds, r, _, hv, hr, _⟩ := h
    rw [hv.length]
    exact len ds r hr
  · obtain ⟨F, ds, nss, e, hv, hR, q⟩ := h
    obtain ⟨te, ht, hb⟩ := hbody cdv A outer s H E hr ds nss hR
    exact ⟨_, ht, hb _ _ _ _ _ (ok_start e hv) _ q⟩
end
end Dl

/-! Where each def of the text stands, its slots (parameters, locals, the names of its comprehensions), its scope. -/
namespace Dl
open PySem L2
def topS (i : Nat) : Stmt := PySem.Challenge.pw_arrowtiers_k41_whole_sheets_told.main.body.getD i (.Pass ⟨0, 0, 0, 0⟩)
abbrev s_want_turned : Stmt := topS 10
abbrev nm_want_turned : List Str := ["net", "turned", "many", "k", "number"]
theorem sc_want_turned : FnScope nm_want_turned ["net", "turned"] (defScope s_want_turned) := ⟨rfl, rfl, rfl, by decide +kernel, rfl, by decide +kernel, by decide +kernel⟩
abbrev s_as_they_go : Stmt := topS 11
abbrev nm_as_they_go : List Str := ["net", "turned", "found", "number", "arrow"]
theorem sc_as_they_go : FnScope nm_as_they_go ["net", "turned"] (defScope s_as_they_go) := ⟨rfl, rfl, rfl, by decide +kernel, rfl, by decide +kernel, by decide +kernel⟩
abbrev s_going_on : Stmt := topS 12
abbrev nm_going_on : List Str := ["ways", "numbers", "left", "many", "starts", "number"]
theorem sc_going_on : FnScope nm_going_on ["ways", "numbers"] (defScope s_going_on) := ⟨rfl, rfl, rfl, by decide +kernel, rfl, by decide +kernel, by decide +kernel⟩
abbrev s_ring_among : Stmt := topS 14
abbrev nm_ring_among : List Str := ["ways", "numbers", "left", "walked", "boxes", "here", "number"]
theorem sc_ring_among : FnScope nm_ring_among ["ways", "numbers"] (defScope s_ring_among) := ⟨rfl, rfl, rfl, by decide +kernel, rfl, by decide +kernel, by decide +kernel⟩
abbrev s_ring_left : Stmt := topS 15
abbrev nm_ring_left : List Str := ["net", "turned", "ways"]
theorem sc_ring_left : FnScope nm_ring_left ["net", "turned"] (defScope s_ring_left) := ⟨rfl, rfl, rfl, by decide +kernel, rfl, by decide +kernel, by decide +kernel⟩
abbrev s_steps_of : Stmt := topS 18
abbrev nm_steps_of : List Str := ["net", "turned", "ring", "found", "number", "a", "b"]
theorem sc_steps_of : FnScope nm_steps_of ["net", "turned"] (defScope s_steps_of) := ⟨rfl, rfl, rfl, by decide +kernel, rfl, by decide +kernel, by decide +kernel⟩
abbrev s_are_rows : Stmt := topS 19
abbrev nm_are_rows : List Str := ["net", "rows", "row"]
theorem sc_are_rows : FnScope nm_are_rows ["net", "rows"] (defScope s_are_rows) := ⟨rfl, rfl, rfl, by decide +kernel, rfl, by decide +kernel, by decide +kernel⟩
abbrev s_is_down : Stmt := topS 20
abbrev nm_is_down : List Str := ["net", "turned", "rows", "steps", "a", "b"]
theorem sc_is_down : FnScope nm_is_down ["net", "turned", "rows"] (defScope s_is_down) := ⟨rfl, rfl, rfl, by decide +kernel, rfl, by decide +kernel, by decide +kernel⟩
abbrev s_ends_of : Stmt := topS 22
abbrev nm_ends_of : List Str := ["arrow", "is_turned"]
theorem sc_ends_of : FnScope nm_ends_of ["arrow", "is_turned"] (defScope s_ends_of) := ⟨rfl, rfl, rfl, by decide +kernel, rfl, by decide +kernel, by decide +kernel⟩
abbrev s_Sheet_init : Stmt := (inClass (topS 23) 0)
abbrev nm_Sheet_init : List Str := ["self", "net", "turned", "rows", "ring", "number", "arrow", "upper", "lower"]
theorem sc_Sheet_init : FnScope nm_Sheet_init ["self", "net", "turned", "rows"] (defScope s_Sheet_init) := ⟨rfl, rfl, rfl, by decide +kernel, rfl, by decide +kernel, by decide +kernel⟩
abbrev s_Sheet_bent : Stmt := (inClass (topS 23) 1)
abbrev nm_Sheet_bent : List Str := ["self", "number", "upper", "lower", "found", "row"]
theorem sc_Sheet_bent : FnScope nm_Sheet_bent ["self", "number", "upper", "lower"] (defScope s_Sheet_bent) := ⟨rfl, rfl, rfl, by decide +kernel, rfl, by decide +kernel, by decide +kernel⟩
abbrev s_Sheet_net : Stmt := (inClass (topS 23) 2)
abbrev nm_Sheet_net : List Str := ["self"]
theorem sc_Sheet_net : FnScope nm_Sheet_net ["self"] (defScope s_Sheet_net) := ⟨rfl, rfl, rfl, by decide +kernel, rfl, by decide +kernel, by decide +kernel⟩
abbrev s_Sheet_turned : Stmt := (inClass (topS 23) 3)
abbrev nm_Sheet_turned : List Str := ["self"]
theorem sc_Sheet_turned : FnScope nm_Sheet_turned ["self"] (defScope s_Sheet_turned) := ⟨rfl, rfl, rfl, by decide +kernel, rfl, by decide +kernel, by decide +kernel⟩
abbrev s_Sheet_rows : Stmt := (inClass (topS 23) 4)
abbrev nm_Sheet_rows : List Str := ["self"]
theorem sc_Sheet_rows : FnScope nm_Sheet_rows ["self"] (defScope s_Sheet_rows) := ⟨rfl, rfl, rfl, by decide +kernel, rfl, by decide +kernel, by decide +kernel⟩
abbrev s_Sheet_many_rows : Stmt := (inClass (topS 23) 5)
abbrev nm_Sheet_many_rows : List Str := ["self"]
theorem sc_Sheet_many_rows : FnScope nm_Sheet_many_rows ["self"] (defScope s_Sheet_many_rows) := ⟨rfl, rfl, rfl, by decide +kernel, rfl, by decide +kernel, by decide +kernel⟩
abbrev s_Sheet_many_nodes : Stmt := (inClass (topS 23) 6)
abbrev nm_Sheet_many_nodes : List Str := ["self"]
theorem sc_Sheet_many_nodes : FnScope nm_Sheet_many_nodes ["self"] (defScope s_Sheet_many_nodes) := ⟨rfl, rfl, rfl, by decide +kernel, rfl, by decide +kernel, by decide +kernel⟩
abbrev s_Sheet_want_node : Stmt := (inClass (topS 23) 7)
abbrev nm_Sheet_want_node : List Str := ["self", "node"]
theorem sc_Sheet_want_node : FnScope nm_Sheet_want_node ["self", "node"] (defScope s_Sheet_want_node) := ⟨rfl, rfl, rfl, by decide +kernel, rfl, by decide +kernel, by decide +kernel⟩
abbrev s_Sheet_row_of : Stmt := (inClass (topS 23) 8)
abbrev nm_Sheet_row_of : List Str := ["self", "node"]
theorem sc_Sheet_row_of : FnScope nm_Sheet_row_of ["self", "node"] (defScope s_Sheet_row_of) := ⟨rfl, rfl, rfl, by decide +kernel, rfl, by decide +kernel, by decide +kernel⟩
abbrev s_Sheet_arrow_of : Stmt := (inClass (topS 23) 9)
abbrev nm_Sheet_arrow_of : List Str := ["self", "node"]
theorem sc_Sheet_arrow_of : FnScope nm_Sheet_arrow_of ["self", "node"] (defScope s_Sheet_arrow_of) := ⟨rfl, rfl, rfl, by decide +kernel, rfl, by decide +kernel, by decide +kernel⟩
abbrev s_Sheet_nodes_in : Stmt := (inClass (topS 23) 10)
abbrev nm_Sheet_nodes_in : List Str := ["self", "row", "node", "own"]
theorem sc_Sheet_nodes_in : FnScope nm_Sheet_nodes_in ["self", "row"] (defScope s_Sheet_nodes_in) := ⟨rfl, rfl, rfl, by decide +kernel, rfl, by decide +kernel, by decide +kernel⟩
abbrev s_Sheet_pieces : Stmt := (inClass (topS 23) 11)
abbrev nm_Sheet_pieces : List Str := ["self", "found", "way", "upper", "lower"]
theorem sc_Sheet_pieces : FnScope nm_Sheet_pieces ["self"] (defScope s_Sheet_pieces) := ⟨rfl, rfl, rfl, by decide +kernel, rfl, by decide +kernel, by decide +kernel⟩
abbrev s_Sheet_way : Stmt := (inClass (topS 23) 12)
abbrev nm_Sheet_way : List Str := ["self", "arrow"]
theorem sc_Sheet_way : FnScope nm_Sheet_way ["self", "arrow"] (defScope s_Sheet_way) := ⟨rfl, rfl, rfl, by decide +kernel, rfl, by decide +kernel, by decide +kernel⟩
abbrev s_first_order : Stmt := topS 24
abbrev nm_first_order : List Str := ["sheet", "row"]
theorem sc_first_order : FnScope nm_first_order ["sheet"] (defScope s_first_order) := ⟨rfl, rfl, rfl, by decide +kernel, rfl, by decide +kernel, by decide +kernel⟩
abbrev s_is_word : Stmt := topS 30
abbrev nm_is_word : List Str := ["thing", "sign"]
theorem sc_is_word : FnScope nm_is_word ["thing"] (defScope s_is_word) := ⟨rfl, rfl, rfl, by decide +kernel, rfl, by decide +kernel, by decide +kernel⟩
abbrev s_is_number : Stmt := topS 31
abbrev nm_is_number : List Str := ["thing"]
theorem sc_is_number : FnScope nm_is_number ["thing"] (defScope s_is_number) := ⟨rfl, rfl, rfl, by decide +kernel, rfl, by decide +kernel, by decide +kernel⟩
abbrev s_is_arrow : Stmt := topS 32
abbrev nm_is_arrow : List Str := ["thing", "many", "end"]
theorem sc_is_arrow : FnScope nm_is_arrow ["thing", "many"] (defScope s_is_arrow) := ⟨rfl, rfl, rfl, by decide +kernel, rfl, by decide +kernel, by decide +kernel⟩
abbrev s_name_fault : Stmt := topS 33
abbrev nm_name_fault : List Str := ["names", "k", "name"]
theorem sc_name_fault : FnScope nm_name_fault ["names"] (defScope s_name_fault) := ⟨rfl, rfl, rfl, by decide +kernel, rfl, by decide +kernel, by decide +kernel⟩
abbrev s_arrow_fault : Stmt := topS 34
abbrev nm_arrow_fault : List Str := ["arrows", "many", "k", "arrow"]
theorem sc_arrow_fault : FnScope nm_arrow_fault ["arrows", "many"] (defScope s_arrow_fault) := ⟨rfl, rfl, rfl, by decide +kernel, rfl, by decide +kernel, by decide +kernel⟩
abbrev s_Net_init : Stmt := (inClass (topS 35) 0)
abbrev nm_Net_init : List Str := ["self", "names", "arrows", "fault"]
theorem sc_Net_init : FnScope nm_Net_init ["self", "names", "arrows"] (defScope s_Net_init) := ⟨rfl, rfl, rfl, by decide +kernel, rfl, by decide +kernel, by decide +kernel⟩
abbrev s_Net_names : Stmt := (inClass (topS 35) 1)
abbrev nm_Net_names : List Str := ["self"]
theorem sc_Net_names : FnScope nm_Net_names ["self"] (defScope s_Net_names) := ⟨rfl, rfl, rfl, by decide +kernel, rfl, by decide +kernel, by decide +kernel⟩
abbrev s_Net_arrows : Stmt := (inClass (topS 35) 2)
abbrev nm_Net_arrows : List Str := ["self"]
theorem sc_Net_arrows : FnScope nm_Net_arrows ["self"] (defScope s_Net_arrows) := ⟨rfl, rfl, rfl, by decide +kernel, rfl, by decide +kernel, by decide +kernel⟩
abbrev s_Net_many : Stmt := (inClass (topS 35) 3)
abbrev nm_Net_many : List Str := ["self"]
theorem sc_Net_many : FnScope nm_Net_many ["self"] (defScope s_Net_many) := ⟨rfl, rfl, rfl, by decide +kernel, rfl, by decide +kernel, by decide +kernel⟩
abbrev s_law_cell_at : Stmt := topS 37
abbrev nm_law_cell_at : List Str := ["_law_script", "_law_k"]
theorem sc_law_cell_at : FnScope nm_law_cell_at ["_law_script", "_law_k"] (defScope s_law_cell_at) := ⟨rfl, rfl, rfl, by decide +kernel, rfl, by decide +kernel, by decide +kernel⟩
abbrev s_law_mixed : Stmt := topS 38
abbrev nm_law_mixed : List Str := ["_law_cell", "_law_k", "_law_found", "_law_turn", "_law_number"]
theorem sc_law_mixed : FnScope nm_law_mixed ["_law_cell", "_law_k"] (defScope s_law_mixed) := ⟨rfl, rfl, rfl, by decide +kernel, rfl, by decide +kernel, by decide +kernel⟩
abbrev s_law_digits : Stmt := topS 39
abbrev nm_law_digits : List Str := ["_law_cell", "_law_base", "_law_many", "_law_left", "_law_found", "_law_k"]
theorem sc_law_digits : FnScope nm_law_digits ["_law_cell", "_law_base", "_law_many"] (defScope s_law_digits) := ⟨rfl, rfl, rfl, by decide +kernel, rfl, by decide +kernel, by decide +kernel⟩
abbrev s_law_picked : Stmt := topS 40
abbrev nm_law_picked : List Str := ["_law_cell", "_law_most"]
theorem sc_law_picked : FnScope nm_law_picked ["_law_cell", "_law_most"] (defScope s_law_picked) := ⟨rfl, rfl, rfl, by decide +kernel, rfl, by decide +kernel, by decide +kernel⟩
abbrev s_law_name : Stmt := topS 41
abbrev nm_law_name : List Str := ["_law_number", "_law_found", "_law_left", "_law_k"]
theorem sc_law_name : FnScope nm_law_name ["_law_number"] (defScope s_law_name) := ⟨rfl, rfl, rfl, by decide +kernel, rfl, by decide +kernel, by decide +kernel⟩
abbrev s_law_names : Stmt := topS 42
abbrev nm_law_names : List Str := ["_law_cell", "_law_many", "_law_found", "_law_spare", "_law_number", "_law_free", "_law_sign", "_law_name_here"]
theorem sc_law_names : FnScope nm_law_names ["_law_cell", "_law_many"] (defScope s_law_names) := ⟨rfl, rfl, rfl, by decide +kernel, rfl, by decide +kernel, by decide +kernel⟩
abbrev s_law_arrows : Stmt := topS 43
abbrev nm_law_arrows : List Str := ["_law_cell", "_law_boxes", "_law_many", "_law_found", "_law_number", "_law_a", "_law_b"]
theorem sc_law_arrows : FnScope nm_law_arrows ["_law_cell", "_law_boxes", "_law_many"] (defScope s_law_arrows) := ⟨rfl, rfl, rfl, by decide +kernel, rfl, by decide +kernel, by decide +kernel⟩
abbrev s_law_net : Stmt := topS 44
abbrev nm_law_net : List Str := ["_law_script", "_law_at", "_law_many", "_law_names_here", "_law_arrows_here"]
theorem sc_law_net : FnScope nm_law_net ["_law_script", "_law_at"] (defScope s_law_net) := ⟨rfl, rfl, rfl, by decide +kernel, rfl, by decide +kernel, by decide +kernel⟩
abbrev s_law_order : Stmt := topS 45
abbrev nm_law_order : List Str := ["_law_cell", "_law_many", "_law_found", "_law_k", "_law_number", "_law_at"]
theorem sc_law_order : FnScope nm_law_order ["_law_cell", "_law_many"] (defScope s_law_order) := ⟨rfl, rfl, rfl, by decide +kernel, rfl, by decide +kernel, by decide +kernel⟩
abbrev s_law_turned : Stmt := topS 46
abbrev nm_law_turned : List Str := ["_law_arrows_here", "_law_order_here", "_law_k", "_law_arrow"]
theorem sc_law_turned : FnScope nm_law_turned ["_law_arrows_here", "_law_order_here"] (defScope s_law_turned) := ⟨rfl, rfl, rfl, by decide +kernel, rfl, by decide +kernel, by decide +kernel⟩
abbrev s_law_going : Stmt := topS 47
abbrev nm_law_going : List Str := ["_law_arrows_here", "_law_turned_here", "_law_found", "_law_k", "_law_arrow"]
theorem sc_law_going : FnScope nm_law_going ["_law_arrows_here", "_law_turned_here"] (defScope s_law_going) := ⟨rfl, rfl, rfl, by decide +kernel, rfl, by decide +kernel, by decide +kernel⟩
abbrev s_law_heights : Stmt := topS 48
abbrev nm_law_heights : List Str := ["_law_going_here", "_law_order_here", "_law_found", "_law_box", "_law_a", "_law_b"]
theorem sc_law_heights : FnScope nm_law_heights ["_law_going_here", "_law_order_here"] (defScope s_law_heights) := ⟨rfl, rfl, rfl, by decide +kernel, rfl, by decide +kernel, by decide +kernel⟩
abbrev s_law_rows : Stmt := topS 49
abbrev nm_law_rows : List Str := ["_law_going_here", "_law_order_here", "_law_cell", "_law_close", "_law_heights_here", "_law_most", "_law_found", "_law_box", "_law_number", "_law_least", "_law_more", "_law_a", "_law_b"]
theorem sc_law_rows : FnScope nm_law_rows ["_law_going_here", "_law_order_here", "_law_cell", "_law_close"] (defScope s_law_rows) := ⟨rfl, rfl, rfl, by decide +kernel, rfl, by decide +kernel, by decide +kernel⟩
abbrev s_law_dealt : Stmt := topS 50
abbrev nm_law_dealt : List Str := ["_law_arrows_here", "_law_many", "_law_script", "_law_at", "_law_order_here", "_law_turned_here", "_law_close", "_law_rows_here"]
theorem sc_law_dealt : FnScope nm_law_dealt ["_law_arrows_here", "_law_many", "_law_script", "_law_at"] (defScope s_law_dealt) := ⟨rfl, rfl, rfl, by decide +kernel, rfl, by decide +kernel, by decide +kernel⟩
abbrev s_law_ways : Stmt := topS 51
abbrev nm_law_ways : List Str := ["_law_arrows_here", "_law_turned_here", "_law_rows_here", "_law_found", "_law_nodes", "_law_a", "_law_b", "_law_many"]
theorem sc_law_ways : FnScope nm_law_ways ["_law_arrows_here", "_law_turned_here", "_law_rows_here"] (defScope s_law_ways) := ⟨rfl, rfl, rfl, by decide +kernel, rfl, by decide +kernel, by decide +kernel⟩
abbrev s_law_node_rows : Stmt := topS 52
abbrev nm_law_node_rows : List Str := ["_law_rows_here", "_law_ways_here", "_law_found", "_law_way", "_law_k"]
theorem sc_law_node_rows : FnScope nm_law_node_rows ["_law_rows_here", "_law_ways_here"] (defScope s_law_node_rows) := ⟨rfl, rfl, rfl, by decide +kernel, rfl, by decide +kernel, by decide +kernel⟩
abbrev s_law_in_rows : Stmt := topS 53
abbrev nm_law_in_rows : List Str := ["_law_node_rows_here", "_law_rows_here", "_law_found", "_law_node", "_law_row", "_law_k"]
theorem sc_law_in_rows : FnScope nm_law_in_rows ["_law_node_rows_here", "_law_rows_here"] (defScope s_law_in_rows) := ⟨rfl, rfl, rfl, by decide +kernel, rfl, by decide +kernel, by decide +kernel⟩
abbrev s_law_pieces : Stmt := topS 54
abbrev nm_law_pieces : List Str := ["_law_ways_here", "_law_found", "_law_way", "_law_u", "_law_v"]
theorem sc_law_pieces : FnScope nm_law_pieces ["_law_ways_here"] (defScope s_law_pieces) := ⟨rfl, rfl, rfl, by decide +kernel, rfl, by decide +kernel, by decide +kernel⟩
abbrev s_law_handed : Stmt := topS 55
abbrev nm_law_handed : List Str := ["_law_row", "_law_kind"]
theorem sc_law_handed : FnScope nm_law_handed ["_law_row", "_law_kind"] (defScope s_law_handed) := ⟨rfl, rfl, rfl, by decide +kernel, rfl, by decide +kernel, by decide +kernel⟩
abbrev s_law_bend_arrows : Stmt := topS 56
abbrev nm_law_bend_arrows : List Str := ["_law_rows_here", "_law_ways_here", "_law_found", "_law_k", "_law_way"]
theorem sc_law_bend_arrows : FnScope nm_law_bend_arrows ["_law_rows_here", "_law_ways_here"] (defScope s_law_bend_arrows) := ⟨rfl, rfl, rfl, by decide +kernel, rfl, by decide +kernel, by decide +kernel⟩
abbrev s_law_is_list : Stmt := topS 57
abbrev nm_law_is_list : List Str := ["_law_told", "_law_due"]
theorem sc_law_is_list : FnScope nm_law_is_list ["_law_told", "_law_due"] (defScope s_law_is_list) := ⟨rfl, rfl, rfl, by decide +kernel, rfl, by decide +kernel, by decide +kernel⟩
abbrev s_law_numbers_right : Stmt := topS 58
abbrev nm_law_numbers_right : List Str := ["_law_sheet", "_law_names_here", "_law_arrows_here", "_law_turned_here", "_law_rows_here", "_law_ways_here", "_law_node_rows_here", "_law_owners", "_law_node", "_law_row"]
theorem sc_law_numbers_right : FnScope nm_law_numbers_right ["_law_sheet", "_law_names_here", "_law_arrows_here", "_law_turned_here", "_law_rows_here"] (defScope s_law_numbers_right) := ⟨rfl, rfl, rfl, by decide +kernel, rfl, by decide +kernel, by decide +kernel⟩
abbrev s_law_lists_right : Stmt := topS 59
abbrev nm_law_lists_right : List Str := ["_law_sheet", "_law_arrows_here", "_law_turned_here", "_law_rows_here", "_law_ways_here", "_law_lines", "_law_told", "_law_line", "_law_row", "_law_k", "_law_way"]
theorem sc_law_lists_right : FnScope nm_law_lists_right ["_law_sheet", "_law_arrows_here", "_law_turned_here", "_law_rows_here"] (defScope s_law_lists_right) := ⟨rfl, rfl, rfl, by decide +kernel, rfl, by decide +kernel, by decide +kernel⟩
abbrev s_law_right : Stmt := topS 60
abbrev nm_law_right : List Str := ["_law_sheet", "_law_names_here", "_law_arrows_here", "_law_dealt_here", "_law_turn"]
theorem sc_law_right : FnScope nm_law_right ["_law_sheet", "_law_names_here", "_law_arrows_here", "_law_dealt_here"] (defScope s_law_right) := ⟨rfl, rfl, rfl, by decide +kernel, rfl, by decide +kernel, by decide +kernel⟩
abbrev s_law : Stmt := topS 61
abbrev nm_law : List Str := ["_law_script", "_law_names_here", "_law_arrows_here", "_law_kind", "_law_net_here", "_law_one", "_law_other", "_law_handed_here", "_law_rows_here", "_law_sheet", "_law_beside"]
theorem sc_law : FnScope nm_law ["_law_script"] (defScope s_law) := ⟨rfl, rfl, rfl, by decide +kernel, rfl, by decide +kernel, by decide +kernel⟩
end Dl

namespace Dl
open PySem L2
local macro_rules | `(tactic| walk_at "le") => `(tactic| repeat (first | exact LeE.nil | refine LeE.keep ?_ | refine LeE.drop ?_))
local macro_rules | `(tactic| walk_at "e") => `(tactic| first
  | (with_reducible apply Ev.b); walk_at "e"
  | (with_reducible apply ev_var); exact rfl
  | with_reducible apply ev_int
  | with_reducible apply ev_str
  | with_reducible apply ev_bl
  | with_reducible apply ev_non
  | with_reducible apply evb_own
  | ((with_reducible apply ev_add) <;> walk_at "e")
  | ((with_reducible apply ev_sub) <;> walk_at "e")
  | ((with_reducible apply ev_mod) <;> first | walk_at "e" | skip)
  | ((with_reducible apply ev_div) <;> first | walk_at "e" | skip)
  | ((with_reducible apply ev_mul) <;> first | walk_at "e" | skip)
  | ((with_reducible apply ev_pow) <;> first | walk_at "e" | skip)
  | ((with_reducible apply ev_lt) <;> walk_at "e")
  | ((with_reducible apply ev_le) <;> walk_at "e")
  | ((with_reducible apply ev_gt) <;> walk_at "e")
  | ((with_reducible apply ev_ge) <;> walk_at "e")
  | ((with_reducible apply ev_len) <;> walk_at "e")
  | ((with_reducible apply ev_lenR) <;> walk_at "e")
  | with_reducible apply ea_nil
  | with_reducible apply eb_nil
  | ((with_reducible apply ea_cons) <;> walk_at "e")
  | ((with_reducible apply eb_cons) <;> walk_at "e")
  | ((with_reducible apply et_test) <;> walk_at "e")
  | ((with_reducible apply et_B) <;> walk_at "e"))
local macro_rules | `(tactic| walk_at "ev") => `(tactic| (walk_at "e" <;> first | done | decide | omega | assumption | exact cmul_l (by decide) (by decide) | exact cmul_r (by decide) (by decide) | exact cpow_mk (by decide) (by decide) (by decide) | exact cdiv_mk (by decide) (by decide)))
section
variable {P : Program} {w : World} {K : PySem.W.Frag} {mg : Str → Option Value} {base : Heap} {N S : Addr}
/-! ### the draws -/
def cellAt (ns : List Int) (k : Int) : Int := if k < (ns.length : Int) then ns.getD k.toNat 0 else 0
def R_cell_at (K : PySem.W.Frag) (ds : List Dt) (d : Dt) : Prop := ∃ (ns : List Int) (k : Int), ds = [.scr K ns, .int k] ∧ 0 ≤ k ∧ d = .int (cellAt ns k)
theorem ok_law_cell_at {f : Addr} {fd : FuncData} (F : Fun K "_law_cell_at" "_law_cell_at" s_law_cell_at f fd) (T : Gb K mg N S) : FnOk P w K mg base CX0 1 f fd ["_law_script", "_law_k"] (spD (R_cell_at K)) := by
  refine fn_dat F sc_law_cell_at (by rintro _ _ ⟨c, k, rfl, _⟩; rfl) fun cdv A outer s H E hr ds d h => ?_
  obtain ⟨ns, k, rfl, h0, rfl⟩ := h
  refine ⟨_, (pss_cons (ps_if (pt_cmpR op_ltI (pv 1) (pe_callB (lenK (K := K) rfl) (by rfl) T.len b_len (pa_cons (pv 0) pa_nil)) (nomark _))
        (pss_one (ps_ret (pe_ix (ixK (K := K) rfl) (pv 0) (pv 1) (fun _ _ => rfl))))
        pss_nil)
      (pss_one (ps_ret pe_int))), ?_⟩
  try dsimp only [L2.cxOf, L2.Cx.nox, L2.Cx.wish]
  refine blk_ifr (by walk_at "ev") (fun hc => ?_) fun hc => ?_
  · have hc := of_decide_eq_true hc
    refine (blk_ret (ev_ixR (u := cellAt ns k) (by walk_at "ev") (by walk_at "ev") h0 ?_))
    unfold cellAt
    rw [if_pos hc, List.getD_eq_getElem?_getD, List.getElem?_eq_getElem (by omega)]
    rfl
  · have hc := of_decide_eq_false hc
    refine blk_ret (ev_int.to ?_)
    unfold cellAt
    rw [if_neg hc]

def mixN (cell k : Int) (j : Nat) : Int :=
  ((cell % 2147483629 + 48271 * (3 * k + (j : Int) + 1)) % 2147483629) * (((cell % 2147483629 + 48271 * (3 * k + (j : Int) + 1)) % 2147483629) + 48271) + 7 * k + (j : Int)
def mixStep (cell k : Int) (f : Int) (j : Nat) : Int := f * 2147483587 + mixN cell k j % 2147483587
def mixed (cell k : Int) : Int := (List.range 3).foldl (mixStep cell k) 0
def R_mixed (ds : List Dt) (d : Dt) : Prop := ∃ cell k : Int, ds = [.int cell, .int k] ∧ d = .int (mixed cell k)
theorem ok_law_mixed {f : Addr} {fd : FuncData} (F : Fun K "_law_mixed" "_law_mixed" s_law_mixed f fd) (T : Gb K mg N S) : FnOk P w K mg base CX0 1 f fd ["_law_cell", "_law_k"] (spD R_mixed) := by
  refine fn_dat F sc_law_mixed (by rintro _ _ ⟨c, k, rfl, _⟩; rfl) fun cdv A outer s H E hr ds d h => ?_
  obtain ⟨c, k, rfl, rfl⟩ := h
  refine ⟨_, (pss_cons (ps_set (i := 2) sc_law_mixed.nd rfl (.inl rfl) pe_int)
      (pss_cons (ps_for PassesOwn.never rfl (pi_range1 (by rfl) T.range (pa_cons pe_int pa_nil)) (pg_name (i := 3) sc_law_mixed.nd rfl (.inl rfl))
        (pss_cons (ps_set (i := 4) sc_law_mixed.nd rfl (.inl rfl) (pe_op op_modI (pe_op op_addA (pe_op op_modI (pv 0) pe_int) (pe_op op_mulA pe_int (pe_op op_addA (pe_op op_addA (pe_op op_mulA pe_int (pv 1)) (pv 3)) pe_int))) pe_int))
        (pss_cons (ps_set (i := 4) sc_law_mixed.nd rfl (.inl rfl) (pe_op op_addA (pe_op op_addA (pe_op op_mulA (pv 4) (pe_op op_addA (pv 4) pe_int)) (pe_op op_mulA pe_int (pv 1))) (pv 3)))
        (pss_one (ps_set (i := 2) sc_law_mixed.nd rfl (.inl rfl) (pe_op op_addA (pe_op op_mulA (pv 2) pe_int) (pe_op op_modI (pv 4) pe_int)))))))
      (pss_one (ps_ret (pv 2))))), ?_⟩
  try dsimp only [L2.cxOf, L2.Cx.nox, L2.Cx.wish]
  refine blk_set ev_int ?_
  refine blk_seq (sd_fold (mixStep c k) 0 (fun _ => noO) (fun s => [some (.int c), some (.int k), some (.int s), none, none]) (it_rng (Ev.b ev_int) (by decide) (by decide)) rfl (by walk_at "le") ?_) ?_
  · intro i x hx s _
    obtain ⟨hi, rfl⟩ := get_range hx
    refine ⟨_, _, tg_name (nin rfl), ?_⟩
    have hi : x < 3 := hi
    have b1 := Int.emod_nonneg (c % 2147483629 + 48271 * (3 * k + (x : Int) + 1)) (show (2147483629 : Int) ≠ 0 by decide)
    have b2 := Int.emod_lt_of_pos (c % 2147483629 + 48271 * (3 * k + (x : Int) + 1)) (show (0 : Int) < 2147483629 by decide)
    refine sds_setE (.int ((c % 2147483629 + 48271 * (3 * k + (x : Int) + 1)) % 2147483629)) (by walk_at "ev") (by rfl) ?_
    refine sds_setE (.int (mixN c k x)) (by walk_at "e" <;> first | exact .inl ⟨by decide, by decide⟩ | exact .inl ⟨by omega, by omega⟩) (by rfl) ?_
    exact sd1_set (.int (mixStep c k s x)) (by walk_at "ev") (by rfl) (by walk_at "le")
  · exact blk_ret (ev_var rfl)

/-- the digits so far, what is left of the cell -/
def dgStep (cell bs : Int) (s : Int × List Int) (k : Nat) : Int × List Int := if 0 < s.1 then (s.1 / bs, s.2 ++ [s.1 % bs]) else (s.1, s.2 ++ [mixed cell k % bs])
def digits (cell bs many : Int) : List Int := ((List.range many.toNat).foldl (dgStep cell bs) (if cell < 10 ^ 18 then 0 else cell, [])).2
theorem dg_len {cell bs : Int} : ∀ (ks : List Nat) (s : Int × List Int), (ks.foldl (dgStep cell bs) s).2.length = s.2.length + ks.length
  | [], s => rfl
  | k :: ks, s => by
    rw [List.foldl_cons, dg_len ks]
    have e : (dgStep cell bs s k).2.length = s.2.length + 1 := by
      unfold dgStep
      split <;> simp
    rw [e, List.length_cons]
    omega
theorem dg_mem {cell bs : Int} (hb : 0 < bs) : ∀ (ks : List Nat) (s : Int × List Int), (∀ x ∈ s.2, 0 ≤ x ∧ x < bs) → ∀ x ∈ (ks.foldl (dgStep cell bs) s).2, 0 ≤ x ∧ x < bs
  | [], s, h => h
  | k :: ks, s, h => by
    rw [List.foldl_cons]
    refine dg_mem hb ks _ fun x hx => ?_
    unfold dgStep at hx
    split at hx
    · rcases List.mem_append.mp hx with q | q
      · exact h x q
      · rw [List.mem_singleton.mp q]
        exact ⟨Int.emod_nonneg _ (by omega), Int.emod_lt_of_pos _ hb⟩
    · rcases List.mem_append.mp hx with q | q
      · exact h x q
      · rw [List.mem_singleton.mp q]
        exact ⟨Int.emod_nonneg _ (by omega), Int.emod_lt_of_pos _ hb⟩
theorem digits_len (cell bs many : Int) : (digits cell bs many).length = many.toNat := by
  unfold digits
  rw [dg_len, List.length_range]
  exact Nat.zero_add _
theorem digits_mem {cell bs many : Int} (hb : 0 < bs) : ∀ x ∈ digits cell bs many, 0 ≤ x ∧ x < bs := dg_mem hb _ _ fun x h => by cases h
def R_digits (ds : List Dt) (es : List Dt) : Prop := ∃ cell bs many : Int, ds = [.int cell, .int bs, .int many] ∧ 0 < bs ∧ bs ≤ 2 ^ 60 ∧ 0 ≤ many ∧ many ≤ 1000 ∧ es = (digits cell bs many).map .int
theorem ok_law_digits {f : Addr} {fd : FuncData} (F : Fun K "_law_digits" "_law_digits" s_law_digits f fd) (T : Gb K mg N S) (c__law_mixed : Cal P w K mg base "_law_mixed" ["_law_cell", "_law_k"] 1 (spD R_mixed)) :
    FnOk P w K mg base CX0 2 f fd ["_law_cell", "_law_base", "_law_many"] (spN R_digits) := by
  refine fn_new F sc_law_digits (by rintro _ _ ⟨_, _, _, rfl, _⟩; rfl) fun cdv A outer s H E hr ds d h => ?_
  obtain ⟨c, bs, many, rfl, hb, hb2, h0, h1, rfl⟩ := h
  have hd : CDivW (10 : Int) bs := wide_div hb (b := 61) (by
    have e : bs.natAbs = bs.toNat := by omega
    have e2 : (2 : Int) ^ 60 = 1152921504606846976 := by decide
    have e3 : (2 : Nat) ^ 61 = 2305843009213693952 := by decide
    rw [e2] at hb2
    rw [e, e3]
    omega) (by decide) (by decide)
  have hd' : ∀ x : Int, CDivW x bs := fun x => hd
  refine ⟨_, (pss_cons (ps_set (i := 3) sc_law_digits.nd rfl (.inl rfl) (pv 0))
      (pss_cons (ps_if (pt_cmpR op_ltI (pv 0) (pe_op op_powI pe_int pe_int) (nomark _))
        (pss_one (ps_set (i := 3) sc_law_digits.nd rfl (.inl rfl) pe_int))
        pss_nil)
      (pss_cons (ps_set (i := 4) sc_law_digits.nd rfl (.inl rfl) (pe_lst pa_nil))
      (pss_cons (ps_for PassesOwn.never rfl (pi_range1 (by rfl) T.range (pa_cons (pv 2) pa_nil)) (pg_name (i := 5) sc_law_digits.nd rfl (.inl rfl))
        (pss_one (ps_if (pt_cmpR op_gtI (pv 3) pe_int (nomark _))
          (pss_cons (ps_expr (pe_bmK (K := K) rfl PySem.F.plainAttrs_list PySem.F.slot_list_append PySem.F.type_list_append mt_append (pv 4) (pa_cons (pe_op op_modI (pv 3) (pv 1)) pa_nil)))
          (pss_one (ps_set (i := 3) sc_law_digits.nd rfl (.inl rfl) (pe_op op_divI (pv 3) (pv 1)))))
          (pss_one (ps_expr (pe_bmK (K := K) rfl PySem.F.plainAttrs_list PySem.F.slot_list_append PySem.F.type_list_append mt_append (pv 4) (pa_cons (pe_op op_modI (pe_callC c__law_mixed (hr.mono (by decide)) (by rfl) (pa_cons (pv 0) (pa_cons (pv 5) pa_nil))) (pv 1)) pa_nil)))))))
      (pss_one (ps_ret (pv 4))))))), ?_⟩
  try dsimp only [L2.cxOf, L2.Cx.nox, L2.Cx.wish]
  refine blk_set (ev_var rfl) ?_
  refine blk_seq (sd_if (o1 := noO) (en1 := [some (.int c), some (.int bs), some (.int many), some (.int (if c < 10 ^ 18 then 0 else c)), none, none]) (by walk_at "ev") (fun hc => ?_) fun hc => ?_) ?_
  · exact sd1_set (.int (if c < 10 ^ 18 then 0 else c)) (by walk_at "ev") (by rw [if_pos (show c < 10 ^ 18 from of_decide_eq_true hc)]) (by walk_at "le")
  · have e : (if c < 10 ^ 18 then 0 else c) = c := if_neg (of_decide_eq_false hc)
    rw [e]
    exact Sd.weak sd_next (by walk_at "le")
  refine blk_new (ev_lst ea_nil) ?_
  refine blk_seq (sd_fold (dgStep c bs) (if c < 10 ^ 18 then 0 else c, []) (fun s => ol 4 (s.2.map .int)) (fun s => [some (.int c), some (.int bs), some (.int many), some (.int s.1), none, none]) (it_rng (by walk_at "ev") (by omega) (by omega)) rfl (by walk_at "le") ?_) blk_retO
  intro i x hx s hs
  obtain ⟨hi, rfl⟩ := get_range hx
  have hl : s.2.length < 100000 := by
    rw [hs, dg_len, List.length_take, List.length_range]
    show 0 + _ < _
    omega
  refine ⟨_, _, tg_name (nin rfl), ?_⟩
  refine sd_if (by walk_at "ev") (fun hc => ?_) fun hc => ?_
  · have e : dgStep c bs s x = (s.1 / bs, s.2 ++ [s.1 % bs]) := if_pos (of_decide_eq_true hc)
    rw [e]
    refine sd_seq (sd_app (d := .int (s.1 % bs)) (by walk_at "ev") (by rw [List.length_map]; exact hl)) ?_
    refine (sd1_set (.int (s.1 / bs)) (by walk_at "e" <;> exact hd' _) (by rfl) (by walk_at "le")).to ?_
    rw [List.map_append]
    rfl
  · have e : dgStep c bs s x = (s.1, s.2 ++ [mixed c x % bs]) := if_neg (of_decide_eq_false hc)
    rw [e]
    refine sd1_app (d := .int (mixed c x % bs)) (ev_mod (Ev.b (ev_call (R := R_mixed) (by walk_at "ev") ⟨_, _, rfl, rfl⟩)) (by walk_at "ev") hb) (by rw [List.map_append]; rfl) (by walk_at "le") (by rw [List.length_map]; exact hl)

/-! ### one draw -/
def picked (cell most : Int) : Int := if 10 ^ 18 ≤ cell then cell % most else mixed cell 0 % most
theorem picked_in {cell most : Int} (h : 0 < most) : 0 ≤ picked cell most ∧ picked cell most < most := by
  unfold picked
  split <;> exact ⟨Int.emod_nonneg _ (by omega), Int.emod_lt_of_pos _ h⟩
def R_picked (ds : List Dt) (d : Dt) : Prop := ∃ cell most : Int, ds = [.int cell, .int most] ∧ 0 < most ∧ d = .int (picked cell most)
theorem ok_law_picked {f : Addr} {fd : FuncData} (F : Fun K "_law_picked" "_law_picked" s_law_picked f fd) (T : Gb K mg N S) (c__law_mixed : Cal P w K mg base "_law_mixed" ["_law_cell", "_law_k"] 1 (spD R_mixed)) :
    FnOk P w K mg base CX0 2 f fd ["_law_cell", "_law_most"] (spD R_picked) := by
  refine fn_dat F sc_law_picked (by rintro _ _ ⟨_, _, rfl, _⟩; rfl) fun cdv A outer s H E hr ds d h => ?_
  obtain ⟨c, m, rfl, hm, rfl⟩ := h
  refine ⟨_, (pss_cons (ps_if (pt_cmpR op_geI (pv 0) (pe_op op_powI pe_int pe_int) (nomark _))
        (pss_one (ps_ret (pe_op op_modI (pv 0) (pv 1))))
        pss_nil)
      (pss_one (ps_ret (pe_op op_modI (pe_callC c__law_mixed (hr.mono (by decide)) (by rfl) (pa_cons (pv 0) (pa_cons pe_int pa_nil))) (pv 1))))), ?_⟩
  try dsimp only [L2.cxOf, L2.Cx.nox, L2.Cx.wish]
  refine blk_ifr (by walk_at "ev") (fun hc => ?_) fun hc => ?_
  · have e : picked c m = c % m := if_pos (of_decide_eq_true hc)
    rw [e]
    exact (blk_ret (by walk_at "ev"))
  · have e : picked c m = mixed c 0 % m := if_neg (of_decide_eq_false hc)
    rw [e]
    exact blk_ret (ev_mod (Ev.b (ev_call (R := R_mixed) (by walk_at "ev") ⟨_, _, rfl, rfl⟩)) (by walk_at "ev") hm)

end
end Dl

namespace Dl
open PySem L2
local macro_rules | `(tactic| walk_at "le") => `(tactic| repeat (first | exact LeE.nil | refine LeE.keep ?_ | refine LeE.drop ?_))
local macro_rules | `(tactic| walk_at "e") => `(tactic| first
  | (with_reducible apply Ev.b); walk_at "e"
  | (with_reducible apply ev_var); exact rfl
  | with_reducible apply ev_int
  | with_reducible apply ev_str
  | with_reducible apply ev_bl
  | with_reducible apply ev_non
  | with_reducible apply evb_own
  | ((with_reducible apply ev_add) <;> walk_at "e")
  | ((with_reducible apply ev_sub) <;> walk_at "e")
  | ((with_reducible apply ev_mod) <;> first | walk_at "e" | skip)
  | ((with_reducible apply ev_div) <;> first | walk_at "e" | skip)
  | ((with_reducible apply ev_mul) <;> first | walk_at "e" | skip)
  | ((with_reducible apply ev_pow) <;> first | walk_at "e" | skip)
  | ((with_reducible apply ev_lt) <;> walk_at "e")
  | ((with_reducible apply ev_le) <;> walk_at "e")
  | ((with_reducible apply ev_gt) <;> walk_at "e")
  | ((with_reducible apply ev_ge) <;> walk_at "e")
  | ((with_reducible apply ev_len) <;> walk_at "e")
  | ((with_reducible apply ev_lenR) <;> walk_at "e")
  | with_reducible apply ea_nil
  | with_reducible apply eb_nil
  | ((with_reducible apply ea_cons) <;> walk_at "e")
  | ((with_reducible apply eb_cons) <;> walk_at "e")
  | ((with_reducible apply et_test) <;> walk_at "e")
  | ((with_reducible apply et_B) <;> walk_at "e"))
local macro_rules | `(tactic| walk_at "ev") => `(tactic| (walk_at "e" <;> first | done | decide | omega | assumption | exact cmul_l (by decide) (by decide) | exact cmul_r (by decide) (by decide) | exact cpow_mk (by decide) (by decide) (by decide) | exact cdiv_mk (by decide) (by decide)))
section
variable {P : Program} {w : World} {K : PySem.W.Frag} {mg : Str → Option Value} {base : Heap} {N S : Addr}
/-! ### names -/
theorem app_cps (x y : Str) : (x ++ y).cps.toList = x.cps.toList ++ y.cps.toList := by
  show (x.cps ++ y.cps).toList = _
  rw [Array.toList_append]
theorem str_len (x : Str) : x.length = x.cps.toList.length := by
  show x.cps.size = _
  rw [Array.length_toList]
def WordOk (s : Str) : Prop := s.cps.toList ≠ [] ∧ s.cps.toList.length ≤ 8 ∧ ∀ c ∈ s.cps.toList, 97 ≤ c ∧ c < 123
theorem WordOk.sok {s : Str} (h : WordOk s) : SOk s := fun c hc => by
  have := h.2.2 c hc
  omega
theorem abc_list : (Str.ofString "abcdefghijklmnopqrstuvwxyz").cps.toList = (List.range 26).map (97 + ·) := by decide +kernel
theorem abc_get {i : Int} (h0 : 0 ≤ i) (h1 : i < 26) : atI (Str.ofString "abcdefghijklmnopqrstuvwxyz").cps.toList i = some (97 + i.toNat) := by
  have h : ((List.range 26).map (97 + ·))[i.toNat]? = some (97 + i.toNat) := by
    rw [List.getElem?_map, List.getElem?_range (by omega)]
    rfl
  have q := atI_nat h
  rw [Int.toNat_of_nonneg h0] at q
  rw [abc_list]
  exact q
def nmStep (s : Str × Int) (_ : Nat) : Str × Int := (s.1 ++ ⟨#[97 + (s.2 % 26).toNat]⟩, s.2 / 26)
def kws : List Str := [Str.ofString "row", Str.ofString "down", Str.ofString "box", Str.ofString "arrow"]
def nameOf (n : Int) : Str := if n % 16 = 3 then kws.getD (n / 16 % 4).toNat (Str.ofString "") else ((List.range (1 + n / 16 % 8).toNat).foldl nmStep (Str.ofString "", n / 128)).1
theorem nm_fold : ∀ (ks : List Nat) (s : Str × Int), (∀ c ∈ s.1.cps.toList, 97 ≤ c ∧ c < 123) →
    (ks.foldl nmStep s).1.cps.toList.length = s.1.cps.toList.length + ks.length ∧ ∀ c ∈ (ks.foldl nmStep s).1.cps.toList, 97 ≤ c ∧ c < 123
  | [], s, h => ⟨rfl, h⟩
  | k :: ks, s, h => by
    have e : (nmStep s k).1.cps.toList = s.1.cps.toList ++ [97 + (s.2 % 26).toNat] := app_cps _ _
    have b1 := Int.emod_nonneg s.2 (show (26 : Int) ≠ 0 by decide)
    have b2 := Int.emod_lt_of_pos s.2 (show (0 : Int) < 26 by decide)
    obtain ⟨h1, h2⟩ := nm_fold ks (nmStep s k) (fun c hc => by
      rw [e] at hc
      rcases List.mem_append.mp hc with q | q
      · exact h c q
      · rw [List.mem_singleton.mp q]
        omega)
    refine ⟨?_, h2⟩
    rw [List.foldl_cons, h1, e, List.length_append, List.length_cons, List.length_cons, List.length_nil]
    omega
theorem kws_ok : ∀ s ∈ kws, WordOk s := by
  intro s hs
  rcases List.mem_cons.mp hs with rfl | hs
  · exact ⟨by decide +kernel, by decide +kernel, by decide +kernel⟩
  rcases List.mem_cons.mp hs with rfl | hs
  · exact ⟨by decide +kernel, by decide +kernel, by decide +kernel⟩
  rcases List.mem_cons.mp hs with rfl | hs
  · exact ⟨by decide +kernel, by decide +kernel, by decide +kernel⟩
  rw [List.mem_singleton.mp hs]
  exact ⟨by decide +kernel, by decide +kernel, by decide +kernel⟩
theorem kws_get {i : Int} (h0 : 0 ≤ i) (h1 : i < 4) : kws[i.toNat]? = some (kws.getD i.toNat (Str.ofString "")) := by
  have h : i.toNat < kws.length := by
    show i.toNat < 4
    omega
  rw [List.getD_eq_getElem?_getD, List.getElem?_eq_getElem h]
  rfl
theorem nameOf_ok (n : Int) : WordOk (nameOf n) := by
  unfold nameOf
  split
  · have b1 := Int.emod_nonneg (n / 16) (show (4 : Int) ≠ 0 by decide)
    have b2 := Int.emod_lt_of_pos (n / 16) (show (0 : Int) < 4 by decide)
    exact kws_ok _ (List.mem_of_getElem? (kws_get b1 b2))
  · have b1 := Int.emod_nonneg (n / 16) (show (8 : Int) ≠ 0 by decide)
    have b2 := Int.emod_lt_of_pos (n / 16) (show (0 : Int) < 8 by decide)
    obtain ⟨h1, h2⟩ := nm_fold (List.range (1 + n / 16 % 8).toNat) (Str.ofString "", n / 128) (fun c hc => by
      have e : (Str.ofString "").cps.toList = [] := by decide +kernel
      rw [e] at hc
      cases hc)
    have e : (Str.ofString "").cps.toList.length = 0 := by decide +kernel
    rw [List.length_range] at h1
    have h1' : _ = (Str.ofString "").cps.toList.length + _ := h1
    rw [e] at h1'
    refine ⟨fun z => ?_, ?_, h2⟩
    · rw [z] at h1'
      rw [List.length_nil] at h1'
      omega
    · omega
def R_name (ds : List Dt) (d : Dt) : Prop := ∃ n : Int, ds = [.int n] ∧ d = .str (nameOf n)
theorem ok_law_name {f : Addr} {fd : FuncData} (F : Fun K "_law_name" "_law_name" s_law_name f fd) (T : Gb K mg N S) : FnOk P w K mg base CX0 1 f fd ["_law_number"] (spD R_name) := by
  refine fn_dat F sc_law_name (by rintro _ _ ⟨_, rfl, _⟩; rfl) fun cdv A outer s H E hr ds d h => ?_
  obtain ⟨n, rfl, rfl⟩ := h
  refine ⟨_, (pss_cons (ps_if (pt_cmpR (eqK (K := K) rfl hr.units) (pe_op op_modI (pv 0) pe_int) pe_int (nomark _))
        (pss_one (ps_ret (pe_ix (ixK (K := K) rfl) (pe_lst (pa_cons pe_str (pa_cons pe_str (pa_cons pe_str (pa_cons pe_str pa_nil))))) (pe_op op_modI (pe_op op_divI (pv 0) pe_int) pe_int) (fun _ _ => rfl))))
        pss_nil)
      (pss_cons (ps_set (i := 1) sc_law_name.nd rfl (.inl rfl) pe_str)
      (pss_cons (ps_set (i := 2) sc_law_name.nd rfl (.inl rfl) (pe_op op_divI (pv 0) pe_int))
      (pss_cons (ps_for PassesOwn.never rfl (pi_range1 (by rfl) T.range (pa_cons (pe_op op_addA pe_int (pe_op op_modI (pe_op op_divI (pv 0) pe_int) pe_int)) pa_nil)) (pg_name (i := 3) sc_law_name.nd rfl (.inl rfl))
        (pss_cons (ps_set (i := 1) sc_law_name.nd rfl (.inl rfl) (pe_op op_addA (pv 1) (pe_ix (ixK (K := K) rfl) pe_str (pe_op op_modI (pv 2) pe_int) (fun _ _ => rfl))))
        (pss_one (ps_set (i := 2) sc_law_name.nd rfl (.inl rfl) (pe_op op_divI (pv 2) pe_int)))))
      (pss_one (ps_ret (pv 1))))))), ?_⟩
  try dsimp only [L2.cxOf, L2.Cx.nox, L2.Cx.wish]
  refine blk_ifr (et_test (Ev.b (ev_eq (u := n % 16) (v := (3 : Int)) enc_int (by walk_at "ev") (by walk_at "ev") lay_int lay_int))) (fun hc => ?_) fun hc => ?_
  · have e : nameOf n = kws.getD (n / 16 % 4).toNat (Str.ofString "") := if_pos (of_decide_eq_true hc)
    have b1 := Int.emod_nonneg (n / 16) (show (4 : Int) ≠ 0 by decide)
    have b2 := Int.emod_lt_of_pos (n / 16) (show (0 : Int) < 4 by decide)
    rw [e]
    exact blk_ret (ev_ix (f := Dt.str) (us := kws) (EvN.e (EvN.to (es := kws.map Dt.str) (ev_lst (by walk_at "ev")) (by rfl))) (by walk_at "ev") b1 (kws_get b1 b2))
  · have e : nameOf n = ((List.range (1 + n / 16 % 8).toNat).foldl nmStep (Str.ofString "", n / 128)).1 := if_neg (of_decide_eq_false hc)
    have b1 := Int.emod_nonneg (n / 16) (show (8 : Int) ≠ 0 by decide)
    have b2 := Int.emod_lt_of_pos (n / 16) (show (0 : Int) < 8 by decide)
    rw [e]
    refine blk_set ev_str ?_
    refine blk_set (by walk_at "ev") ?_
    refine blk_seq (sd_fold nmStep (Str.ofString "", n / 128) (fun _ => noO) (fun s => [some (.int n), some (.str s.1), some (.int s.2), none]) (it_rng (a := 1 + n / 16 % 8) (by walk_at "ev") (by omega) (by omega)) rfl (by walk_at "le") ?_) (blk_ret (ev_var rfl))
    intro i x hx s hs
    obtain ⟨hi, rfl⟩ := get_range hx
    refine ⟨_, _, tg_name (nin rfl), ?_⟩
    have c1 := Int.emod_nonneg s.2 (show (26 : Int) ≠ 0 by decide)
    have c2 := Int.emod_lt_of_pos s.2 (show (0 : Int) < 26 by decide)
    have hl : s.1.length ≤ 900 := by
      have q := (nm_fold ((List.range (1 + n / 16 % 8).toNat).take x) (Str.ofString "", n / 128) (fun c hc => by
        have e : (Str.ofString "").cps.toList = [] := by decide +kernel
        rw [e] at hc
        cases hc)).1
      rw [← hs, List.length_take, List.length_range] at q
      have e : (Str.ofString "").cps.toList.length = 0 := by decide +kernel
      have q' : _ = (Str.ofString "").cps.toList.length + _ := q
      rw [e] at q'
      rw [str_len]
      omega
    refine sds_setE (.str (nmStep s x).1) (ev_addS (by walk_at "ev") (Ev.b (ev_ixS (by walk_at "ev") (by walk_at "ev") (by decide +kernel) (abc_get c1 c2))) (by
      have e : Str.length ⟨#[97 + (s.2 % 26).toNat]⟩ = 1 := rfl
      rw [e]
      omega)) (by rfl) ?_
    exact sd1_set (.int (nmStep s x).2) (by walk_at "ev") (by rfl) (by walk_at "le")

/-! ### the names of a net -/
def spare : List Str := (Str.ofString "abcdefghijklm").cps.toList.map fun c => Str.ofString "q" ++ ⟨#[c]⟩
def freeOf (found : List Str) (n : Int) : List Str := (nameOf n :: spare).filter fun x => !decide (x ∈ found)
def nsStep (found : List Str) (n : Int) : List Str := found ++ [(freeOf found n).headD (Str.ofString "")]
def namesOf (cell many : Int) : List Str := (digits cell (128 * 26 ^ 8) many).foldl nsStep []
theorem spare_ok : ∀ s ∈ spare, WordOk s := by
  intro s hs
  obtain ⟨c, hc, rfl⟩ := List.mem_map.mp hs
  have e : (Str.ofString "abcdefghijklm").cps.toList = [97, 98, 99, 100, 101, 102, 103, 104, 105, 106, 107, 108, 109] := by decide +kernel
  have eq : (Str.ofString "q").cps.toList = [113] := by decide +kernel
  rw [e] at hc
  have ea : (Str.ofString "q" ++ ⟨#[c]⟩ : Str).cps.toList = [113, c] := by
    rw [app_cps, eq]
    rfl
  have hb : 97 ≤ c ∧ c < 123 := by
    simp only [List.mem_cons, List.not_mem_nil, or_false] at hc
    omega
  unfold WordOk
  rw [ea]
  refine ⟨List.cons_ne_nil _ _, by show 2 ≤ 8; decide, fun x hx => ?_⟩
  rcases List.mem_cons.mp hx with rfl | hx
  · exact ⟨by decide, by decide⟩
  · rw [List.mem_singleton.mp hx]
    exact hb
theorem spare_nodup : spare.Nodup := by decide +kernel
theorem spare_len : spare.length = 13 := by decide +kernel
theorem pigeon {α : Type} [DecidableEq α] : ∀ {xs ys : List α}, xs.Nodup → (∀ x ∈ xs, x ∈ ys) → xs.length ≤ ys.length
  | [], ys, _, _ => Nat.zero_le _
  | x :: xs, ys, h, k => by
    obtain ⟨h1, h2⟩ := List.nodup_cons.mp h
    have hx : x ∈ ys := k x List.mem_cons_self
    have q := pigeon (ys := ys.erase x) h2 (fun z hz => (List.mem_erase_of_ne (fun e => h1 (by rw [← e]; exact hz))).mpr (k z (List.mem_cons_of_mem _ hz)))
    rw [List.length_erase_of_mem hx] at q
    have hp : 0 < ys.length := List.length_pos_of_mem hx
    rw [List.length_cons]
    omega
theorem free_ne {found : List Str} {n : Int} (h : found.length < 13) : freeOf found n ≠ [] := fun z => by
  have q : ∀ x ∈ spare, x ∈ found := fun x hx => by
    refine Decidable.byContradiction fun c => ?_
    have hm : x ∈ freeOf found n := List.mem_filter.mpr ⟨List.mem_cons_of_mem _ hx, by rw [decide_eq_false c]; rfl⟩
    rw [z] at hm
    cases hm
  have := pigeon spare_nodup q
  rw [spare_len] at this
  omega
theorem ns_step {found : List Str} {n : Int} (h : found.length < 13) (hn : found.Nodup) (hw : ∀ s ∈ found, WordOk s) : (nsStep found n).length = found.length + 1 ∧ (nsStep found n).Nodup ∧ ∀ s ∈ nsStep found n, WordOk s := by
  have hf := free_ne (n := n) h
  unfold nsStep
  cases q : freeOf found n with
  | nil => exact absurd q hf
  | cons x r =>
    have hx : x ∈ freeOf found n := by rw [q]; exact List.mem_cons_self
    obtain ⟨h1, h2⟩ := List.mem_filter.mp hx
    have h2' : x ∉ found := fun z => by
      rw [decide_eq_true z] at h2
      cases h2
    have hxw : WordOk x := by
      rcases List.mem_cons.mp h1 with e | e
      · rw [e]; exact nameOf_ok n
      · exact spare_ok x e
    refine ⟨by rw [List.length_append]; rfl, ?_, fun s hs => ?_⟩
    · refine List.nodup_append.mpr ⟨hn, List.nodup_cons.mpr ⟨fun z => (by cases z), List.nodup_nil⟩, fun a ha b hb e => ?_⟩
      have hb : b = x := List.mem_singleton.mp hb
      rw [e, hb] at ha
      exact h2' ha
    · rcases List.mem_append.mp hs with z | z
      · exact hw s z
      · have z : s = x := List.mem_singleton.mp z
        rw [z]; exact hxw
theorem ns_fold : ∀ (ns : List Int) (found : List Str), found.length + ns.length ≤ 13 → found.Nodup → (∀ s ∈ found, WordOk s) →
    (ns.foldl nsStep found).length = found.length + ns.length ∧ (ns.foldl nsStep found).Nodup ∧ ∀ s ∈ ns.foldl nsStep found, WordOk s
  | [], found, _, h2, h3 => ⟨rfl, h2, h3⟩
  | n :: ns, found, h1, h2, h3 => by
    rw [List.length_cons] at h1
    obtain ⟨a, b, c⟩ := ns_step (n := n) (by omega) h2 h3
    obtain ⟨a', b', c'⟩ := ns_fold ns (nsStep found n) (by omega) b c
    refine ⟨?_, b', c'⟩
    rw [List.foldl_cons, a', a, List.length_cons]
    omega
theorem namesOf_ok {cell many : Int} (h0 : 0 ≤ many) (h : many ≤ 12) : ((namesOf cell many).length : Int) = many ∧ (namesOf cell many).Nodup ∧ ∀ s ∈ namesOf cell many, WordOk s := by
  obtain ⟨a, b, c⟩ := ns_fold (digits cell (128 * 26 ^ 8) many) [] (by rw [digits_len]; show 0 + _ ≤ 13; omega) List.nodup_nil (fun s hs => nomatch hs)
  refine ⟨?_, b, c⟩
  unfold namesOf
  rw [a, digits_len]
  show ((0 + many.toNat : Nat) : Int) = many
  omega
def R_names (ds es : List Dt) : Prop := ∃ cell many : Int, ds = [.int cell, .int many] ∧ 0 ≤ many ∧ many ≤ 12 ∧ es = (namesOf cell many).map .str
theorem ok_law_names {f : Addr} {fd : FuncData} (F : Fun K "_law_names" "_law_names" s_law_names f fd) (T : Gb K mg N S) (c__law_digits : Cal P w K mg base "_law_digits" ["_law_cell", "_law_base", "_law_many"] 2 (spN R_digits))
    (c__law_name : Cal P w K mg base "_law_name" ["_law_number"] 1 (spD R_name)) : FnOk P w K mg base CX0 3 f fd ["_law_cell", "_law_many"] (spN R_names) := by
  refine fn_new F sc_law_names (by rintro _ _ ⟨_, _, rfl, _⟩; rfl) fun cdv A outer s H E hr ds d h => ?_
  obtain ⟨c, m, rfl, h0, h1, rfl⟩ := h
  refine ⟨_, (pss_cons (ps_set (i := 2) sc_law_names.nd rfl (.inr rfl) (pe_lst pa_nil))
      (pss_cons (ps_setLc (i := 3) (own := [("_law_sign", 6)]) rfl sc_law_names.nd rfl rfl (sw_true rfl rfl rfl (by decide +kernel)) (pi_any pe_str) (blkOk_by (own := [("_law_sign", 6)]) (N := nm_law_names) (sc := defScope s_law_names) (by decide +kernel)) (fun _ _ _ _ _ => (pg_name (i := 6) sc_law_names.nd rfl (.inl rfl))) (fun _ _ _ _ _ => pts_nil) (fun _ _ _ _ _ => (pe_op op_addA pe_str (pv 6))))
      (pss_cons (ps_for PassesOwn.never rfl (pi_any (pe_callC c__law_digits (hr.mono (by decide)) (by rfl) (pa_cons (pv 0) (pa_cons (pe_op op_mulA pe_int (pe_op op_powI pe_int pe_int)) (pa_cons (pv 1) pa_nil))))) (pg_name (i := 4) sc_law_names.nd rfl (.inl rfl))
        (pss_cons (ps_setLc (i := 5) (own := [("_law_name_here", 7)]) rfl sc_law_names.nd rfl rfl (sw_true rfl rfl rfl (by decide +kernel)) (pi_any (pe_op op_addA (pe_lst (pa_cons (pe_callC c__law_name (hr.mono (by decide)) (by rfl) (pa_cons (pv 4) pa_nil)) pa_nil)) (pv 3))) (blkOk_by (own := [("_law_name_here", 7)]) (N := nm_law_names) (sc := defScope s_law_names) (by decide +kernel)) (fun _ _ _ _ _ => (pg_name (i := 7) sc_law_names.nd rfl (.inl rfl))) (fun _ _ _ _ _ => (pts_one (pt_cmpR (notInK (K := K) rfl (Room.u65 hr)) (pv 7) (pv 2) (by rfl)))) (fun _ _ _ _ _ => (pv 7)))
        (pss_one (ps_expr (pe_bmK (K := K) rfl PySem.F.plainAttrs_list PySem.F.slot_list_append PySem.F.type_list_append mt_append (pv 2) (pa_cons (pe_ix (ixK (K := K) rfl) (pv 5) pe_int (fun _ _ => rfl)) pa_nil))))))
      (pss_one (ps_ret (pv 2)))))), ?_⟩
  try dsimp only [L2.cxOf, L2.Cx.nox, L2.Cx.wish]
  refine blk_new (ev_lst ea_nil) ?_
  refine blk_set (d := L .str spare) ?_ ?_
  · refine EvN.e (EvN.to (evn_lc1 (xs := (Str.ofString "abcdefghijklm").cps.toList) (f := fun c => .str ⟨#[c]⟩) (fun c => .str (Str.ofString "q" ++ ⟨#[c]⟩)) (it_str (by walk_at "ev")) (fun j hj => nin (by
      rw [List.mem_singleton.mp hj]
      rfl)) (by decide +kernel) fun c hc => ?_) (by unfold spare; rw [List.map_map]; rfl))
    exact ⟨_, _, tg_name (nin rfl), fun j hj => hj, ev_addS (by walk_at "ev") (by walk_at "ev") (by
      have e : Str.length (⟨#[c]⟩ : Str) = 1 := rfl
      have e2 : (Str.ofString "q").length = 1 := by decide +kernel
      rw [e, e2]
      decide)⟩
  refine blk_seq (sd_fold nsStep [] (fun s => ol 2 (s.map .str)) (fun s => [some (.int c), some (.int m), none, some (L .str spare), none, none, none, none])
    (it_L (us := digits c (128 * 26 ^ 8) m) (EvN.e (evn_call (ds := [.int c, .int (128 * 26 ^ 8), .int m]) (EvA.to (by walk_at "ev") (by rfl)) ⟨_, _, _, rfl, by decide, by decide, h0, by omega, rfl⟩))) rfl (by walk_at "le") ?_) blk_retO
  intro i x hx s hs
  have hil : i < (digits c (128 * 26 ^ 8) m).length := (List.getElem?_eq_some_iff.mp hx).1
  have hdl := digits_len c (128 * 26 ^ 8) m
  obtain ⟨a1, a2, a3⟩ := ns_fold ((digits c (128 * 26 ^ 8) m).take i) [] (by rw [List.length_take]; show 0 + _ ≤ 13; omega) List.nodup_nil (fun s hs => nomatch hs)
  rw [← hs] at a1 a2 a3
  rw [List.length_take] at a1
  have a1' : s.length = 0 + min i (digits c (128 * 26 ^ 8) m).length := a1
  refine ⟨_, _, tg_name (nin rfl), ?_⟩
  refine sds_set (d := L .str (freeOf s x)) ?_ ?_
  · refine EvN.e (evn_lc (xs := nameOf x :: spare) (f := Dt.str) (fun y => !decide (y ∈ s)) Dt.str (it_L (us := nameOf x :: spare) (by
      refine EvN.e (EvN.to (ev_cat (xs := [.str (nameOf x)]) (ys := spare.map .str) (EvN.e (ev_lst (ea_cons (ev_call (R := R_name) (by walk_at "ev") ⟨_, rfl, rfl⟩) ea_nil))) (Ev.to (ev_var (d := L .str spare) rfl) rfl) (by
        rw [List.length_map, spare_len]
        exact Nat.le_of_ble_eq_true rfl)) rfl))) (fun j hj => nin (by
      rw [List.mem_singleton.mp hj]
      rfl)) (by rw [List.length_cons, spare_len]; decide) fun y hy => ?_)
    have hyw : WordOk y := by
      rcases List.mem_cons.mp hy with e | e
      · rw [e]; exact nameOf_ok x
      · exact spare_ok y e
    exact ⟨_, _, tg_name (nin rfl), fun j hj => hj, et_test (Ev.b (ev_notInD enc_str (by walk_at "ev") evb_own (lay_str hyw.sok) (lay_strs fun z hz => (a3 z hz).sok))), fun _ => ev_var rfl⟩
  · have hf : (freeOf s x)[0]? = some ((freeOf s x).headD (Str.ofString "")) := by
      have hne := free_ne (found := s) (n := x) (by omega)
      cases q : freeOf s x with
      | nil => exact absurd q hne
      | cons y r => rfl
    exact sd1_app (d := .str ((freeOf s x).headD (Str.ofString ""))) (ev_ix (f := Dt.str) (us := freeOf s x) (ev_var rfl) (Ev.b ev_int) (by decide) hf) (by unfold nsStep; rw [List.map_append]; rfl) (by walk_at "le") (by rw [List.length_map]; omega)

end
end Dl

namespace Dl
open PySem L2
local macro_rules | `(tactic| walk_at "le") => `(tactic| repeat (first | exact LeE.nil | refine LeE.keep ?_ | refine LeE.drop ?_))
local macro_rules | `(tactic| walk_at "e") => `(tactic| first
  | (with_reducible apply Ev.b); walk_at "e"
  | (with_reducible apply ev_var); exact rfl
  | with_reducible apply ev_int
  | with_reducible apply ev_str
  | with_reducible apply ev_bl
  | with_reducible apply ev_non
  | with_reducible apply evb_own
  | ((with_reducible apply ev_add) <;> walk_at "e")
  | ((with_reducible apply ev_sub) <;> walk_at "e")
  | ((with_reducible apply ev_mod) <;> first | walk_at "e" | skip)
  | ((with_reducible apply ev_div) <;> first | walk_at "e" | skip)
  | ((with_reducible apply ev_mul) <;> first | walk_at "e" | skip)
  | ((with_reducible apply ev_pow) <;> first | walk_at "e" | skip)
  | ((with_reducible apply ev_lt) <;> walk_at "e")
  | ((with_reducible apply ev_le) <;> walk_at "e")
  | ((with_reducible apply ev_gt) <;> walk_at "e")
  | ((with_reducible apply ev_ge) <;> walk_at "e")
  | ((with_reducible apply ev_len) <;> walk_at "e")
  | ((with_reducible apply ev_lenR) <;> walk_at "e")
  | with_reducible apply ea_nil
  | with_reducible apply eb_nil
  | ((with_reducible apply ea_cons) <;> walk_at "e")
  | ((with_reducible apply eb_cons) <;> walk_at "e")
  | ((with_reducible apply et_test) <;> walk_at "e")
  | ((with_reducible apply et_B) <;> walk_at "e"))
local macro_rules | `(tactic| walk_at "ev") => `(tactic| (walk_at "e" <;> first | done | decide | omega | assumption | exact cmul_l (by decide) (by decide) | exact cmul_r (by decide) (by decide) | exact cpow_mk (by decide) (by decide) (by decide) | exact cdiv_mk (by decide) (by decide)))
section
variable {P : Program} {w : World} {K : PySem.W.Frag} {mg : Str → Option Value} {base : Heap} {N S : Addr}
/-! ### arrows -/
theorem div_small {i j : Int} (h : 0 < j) (h1 : j ≤ 100000) : CDivW i j := wide_div h (b := 20) (by
  have e : (2 : Nat) ^ 20 = 1048576 := by decide
  rw [e]
  omega) (by decide) (by decide)
def arA (bx n : Int) : Int := n / (bx - 1)
def arB (bx n : Int) : Int := if n / (bx - 1) ≤ n % (bx - 1) then n % (bx - 1) + 1 else n % (bx - 1)
def arStep (bx : Int) (found : List (Int × Int)) (n : Int) : List (Int × Int) := if (arA bx n, arB bx n) ∈ found then found else found ++ [(arA bx n, arB bx n)]
def arrowsOf (cell bx many : Int) : List (Int × Int) := if bx = 1 then [] else (digits cell (bx * (bx - 1)) many).foldl (arStep bx) []
/-- an arrow between so many boxes -/
def ArIn (bx : Int) (p : Int × Int) : Prop := 0 ≤ p.1 ∧ p.1 < bx ∧ 0 ≤ p.2 ∧ p.2 < bx ∧ p.1 ≠ p.2
theorem ar_in {bx n : Int} (hb : 2 ≤ bx) (h0 : 0 ≤ n) (h1 : n < bx * (bx - 1)) : ArIn bx (arA bx n, arB bx n) := by
  have a1 : 0 ≤ n / (bx - 1) := Int.ediv_nonneg h0 (by omega)
  have a2 : n / (bx - 1) < bx := Int.ediv_lt_of_lt_mul (by omega) h1
  have b1 := Int.emod_nonneg n (show bx - 1 ≠ 0 by omega)
  have b2 := Int.emod_lt_of_pos n (show 0 < bx - 1 by omega)
  unfold ArIn arA arB
  refine ⟨a1, a2, ?_, ?_, ?_⟩
  all_goals
    dsimp only
    split
    all_goals omega
theorem ar_fold {bx : Int} : ∀ (ns : List Int) (found : List (Int × Int)), (∀ n ∈ ns, ArIn bx (arA bx n, arB bx n)) → (∀ p ∈ found, ArIn bx p) → found.Nodup →
    (∀ p ∈ ns.foldl (arStep bx) found, ArIn bx p) ∧ (ns.foldl (arStep bx) found).Nodup ∧ (ns.foldl (arStep bx) found).length ≤ found.length + ns.length
  | [], found, _, h2, h3 => ⟨h2, h3, Nat.le_refl _⟩
  | n :: ns, found, h1, h2, h3 => by
    have hn := h1 n List.mem_cons_self
    have s1 : ∀ p ∈ arStep bx found n, ArIn bx p := fun p hp => by
      unfold arStep at hp
      split at hp
      · exact h2 p hp
      · rcases List.mem_append.mp hp with q | q
        · exact h2 p q
        · rw [List.mem_singleton.mp q]; exact hn
    have s2 : (arStep bx found n).Nodup := by
      unfold arStep
      split
      · exact h3
      · rename_i hx
        refine List.nodup_append.mpr ⟨h3, List.nodup_cons.mpr ⟨fun z => (by cases z), List.nodup_nil⟩, fun a ha b hb e => ?_⟩
        have hb' : b = (arA bx n, arB bx n) := List.mem_singleton.mp hb
        rw [e, hb'] at ha
        exact hx ha
    have s3 : (arStep bx found n).length ≤ found.length + 1 := by
      unfold arStep
      split
      · omega
      · rw [List.length_append]
        exact Nat.le_refl _
    obtain ⟨a, b, c⟩ := ar_fold ns (arStep bx found n) (fun m hm => h1 m (List.mem_cons_of_mem _ hm)) s1 s2
    refine ⟨a, b, ?_⟩
    rw [List.length_cons]
    rw [List.foldl_cons]
    omega
theorem mul_pos' {bx : Int} (h : 2 ≤ bx) : 0 < bx * (bx - 1) := Int.mul_pos (by omega) (by omega)
theorem arrowsOf_ok {cell bx many : Int} (hb : 1 ≤ bx) (h0 : 0 ≤ many) : (∀ p ∈ arrowsOf cell bx many, ArIn bx p) ∧ (arrowsOf cell bx many).Nodup ∧ ((arrowsOf cell bx many).length : Int) ≤ many := by
  unfold arrowsOf
  split
  · exact ⟨fun p hp => (by cases hp), List.nodup_nil, h0⟩
  · have hb2 : 2 ≤ bx := by omega
    obtain ⟨a, b, c⟩ := ar_fold (bx := bx) (digits cell (bx * (bx - 1)) many) [] (fun n hn => ar_in hb2 (digits_mem (mul_pos' hb2) n hn).1 (digits_mem (mul_pos' hb2) n hn).2) (fun p hp => (by cases hp)) List.nodup_nil
    refine ⟨a, b, ?_⟩
    rw [digits_len] at c
    have c' : _ ≤ 0 + many.toNat := c
    omega
def R_arrows (ds es : List Dt) : Prop := ∃ cell bx many : Int, ds = [.int cell, .int bx, .int many] ∧ 1 ≤ bx ∧ bx ≤ 12 ∧ 0 ≤ many ∧ many ≤ 24 ∧ es = (arrowsOf cell bx many).map PR
theorem ok_law_arrows {f : Addr} {fd : FuncData} (F : Fun K "_law_arrows" "_law_arrows" s_law_arrows f fd) (T : Gb K mg N S) (c__law_digits : Cal P w K mg base "_law_digits" ["_law_cell", "_law_base", "_law_many"] 2 (spN R_digits)) :
    FnOk P w K mg base CX0 3 f fd ["_law_cell", "_law_boxes", "_law_many"] (spN R_arrows) := by
  refine fn_new F sc_law_arrows (by rintro _ _ ⟨_, _, _, rfl, _⟩; rfl) fun cdv A outer s H E hr ds d h => ?_
  obtain ⟨c, bx, m, rfl, hb, hb2, h0, h1, rfl⟩ := h
  refine ⟨_, (pss_cons (ps_set (i := 3) sc_law_arrows.nd rfl (.inl rfl) (pe_lst pa_nil))
      (pss_cons (ps_if (pt_cmpR (eqK (K := K) rfl hr.units) (pv 1) pe_int (nomark _))
        (pss_one (ps_ret (pv 3)))
        pss_nil)
      (pss_cons (ps_for PassesOwn.never rfl (pi_any (pe_callC c__law_digits (hr.mono (by decide)) (by rfl) (pa_cons (pv 0) (pa_cons (pe_op op_mulA (pv 1) (pe_op op_subI (pv 1) pe_int)) (pa_cons (pv 2) pa_nil))))) (pg_name (i := 4) sc_law_arrows.nd rfl (.inl rfl))
        (pss_cons (ps_set (i := 5) sc_law_arrows.nd rfl (.inl rfl) (pe_op op_divI (pv 4) (pe_op op_subI (pv 1) pe_int)))
        (pss_cons (ps_set (i := 6) sc_law_arrows.nd rfl (.inl rfl) (pe_op op_modI (pv 4) (pe_op op_subI (pv 1) pe_int)))
        (pss_cons (ps_if (pt_cmpR op_geI (pv 6) (pv 5) (nomark _))
          (pss_one (ps_set (i := 6) sc_law_arrows.nd rfl (.inl rfl) (pe_op op_addA (pv 6) pe_int)))
          pss_nil)
        (pss_one (ps_if (pt_cmpR (notInK (K := K) rfl (Room.u65 hr)) (pe_tup (pa_cons (pv 5) (pa_cons (pv 6) pa_nil))) (pv 3) (by rfl))
          (pss_one (ps_expr (pe_bmK (K := K) rfl PySem.F.plainAttrs_list PySem.F.slot_list_append PySem.F.type_list_append mt_append (pv 3) (pa_cons (pe_tup (pa_cons (pv 5) (pa_cons (pv 6) pa_nil))) pa_nil))))
          pss_nil))))))
      (pss_one (ps_ret (pv 3)))))), ?_⟩
  try dsimp only [L2.cxOf, L2.Cx.nox, L2.Cx.wish]
  refine blk_new (ev_lst ea_nil) ?_
  refine blk_ifr (et_test (Ev.b (ev_eq (u := bx) (v := (1 : Int)) enc_int (by walk_at "ev") (by walk_at "ev") lay_int lay_int))) (fun hc => ?_) fun hc => ?_
  · have e : arrowsOf c bx m = [] := if_pos (of_decide_eq_true hc)
    rw [e]
    exact blk_retO
  have hne := of_decide_eq_false hc
  have hb3 : 2 ≤ bx := by omega
  have e : arrowsOf c bx m = (digits c (bx * (bx - 1)) m).foldl (arStep bx) [] := if_neg hne
  have hsz : bx * (bx - 1) ≤ 12 * 11 := Int.mul_le_mul hb2 (by omega) (by omega) (by decide)
  have hmem := fun n hn => digits_mem (cell := c) (many := m) (mul_pos' hb3) n hn
  rw [e]
  refine blk_seq (sd_fold (arStep bx) [] (fun s => ol 3 (s.map PR)) (fun s => [some (.int c), some (.int bx), some (.int m), none, none, none, none])
    (it_L (us := digits c (bx * (bx - 1)) m) (EvN.e (evn_call (ds := [.int c, .int (bx * (bx - 1)), .int m]) (by walk_at "e" <;> exact cmul_l (by omega) (by omega)) ⟨_, _, _, rfl, mul_pos' hb3, by omega, h0, by omega, rfl⟩))) rfl (by walk_at "le") ?_) blk_retO
  intro i x hx s hs
  have hxm := hmem x (List.mem_of_getElem? hx)
  obtain ⟨a1, a2, a3⟩ := ar_fold (bx := bx) ((digits c (bx * (bx - 1)) m).take i) [] (fun n hn => ar_in hb3 (hmem n (List.mem_of_mem_take hn)).1 (hmem n (List.mem_of_mem_take hn)).2) (fun p hp => (by cases hp)) List.nodup_nil
  rw [← hs] at a3
  have hl : s.length < 100000 := by
    rw [List.length_take, digits_len] at a3
    have a3' : s.length ≤ 0 + min i m.toNat := a3
    omega
  refine ⟨_, _, tg_name (nin rfl), ?_⟩
  refine sds_setE (.int (arA bx x)) (by walk_at "e" <;> exact div_small (by omega) (by omega)) (by rfl) ?_
  refine sds_setE (.int (x % (bx - 1))) (by walk_at "e" <;> omega) (by rfl) ?_
  refine sd_seq (sd_if (o1 := ol 3 (s.map PR)) (en1 := [some (.int c), some (.int bx), some (.int m), none, none, some (.int (arA bx x)), some (.int (arB bx x))]) (by walk_at "ev") (fun hc => ?_) fun hc => ?_) ?_
  · exact sd1_set (.int (arB bx x)) (by walk_at "ev") (by unfold arB; rw [if_pos (show x / (bx - 1) ≤ x % (bx - 1) from of_decide_eq_true hc)]) (by walk_at "le")
  · have e : arB bx x = x % (bx - 1) := if_neg (show ¬ x / (bx - 1) ≤ x % (bx - 1) from of_decide_eq_false hc)
    rw [e]
    exact Sd.weak sd_next (by walk_at "le")
  refine sd_if (et_test (Ev.b (ev_notInD (u := (arA bx x, arB bx x)) (us := s) enc_PR (Ev.b (ev_pair (f := Dt.int) (g' := Dt.int) (ev_var rfl) (ev_var rfl))) evb_own lay_PR lay_PRs))) (fun hc => ?_) fun hc => ?_
  · have hni : (arA bx x, arB bx x) ∉ s := nd_t hc
    have e : arStep bx s x = s ++ [(arA bx x, arB bx x)] := if_neg hni
    rw [e]
    exact sd1_app (d := PR (arA bx x, arB bx x)) (ev_pair (f := Dt.int) (g' := Dt.int) (ev_var rfl) (ev_var rfl)) (by rw [List.map_append]; rfl) (by walk_at "le") (by rw [List.length_map]; exact hl)
  · have hi : (arA bx x, arB bx x) ∈ s := nd_f hc
    have e : arStep bx s x = s := if_pos hi
    rw [e]
    exact Sd.weak sd_next (by walk_at "le")

/-! ### a net's names and arrows -/
def boxesOf (ns : List Int) (at_ : Int) : Int := 1 + picked (cellAt ns at_) 12
def netNames (ns : List Int) (at_ : Int) : List Str := namesOf (cellAt ns (at_ + 1)) (boxesOf ns at_)
def netArrows (ns : List Int) (at_ : Int) : List (Int × Int) := arrowsOf (cellAt ns (at_ + 2)) (boxesOf ns at_) (picked (cellAt ns (at_ + 3)) 25)
theorem boxesOf_in (ns : List Int) (at_ : Int) : 1 ≤ boxesOf ns at_ ∧ boxesOf ns at_ ≤ 12 := by
  have := picked_in (cell := cellAt ns at_) (most := 12) (by decide)
  unfold boxesOf
  omega
abbrev LS : List Str → Dt := L .str
abbrev LP : List (Int × Int) → Dt := L PR
abbrev LI : List Int → Dt := L .int
def R_net (K : PySem.W.Frag) (ds : List Dt) (d : Dt) : Prop := ∃ (ns : List Int) (at_ : Int), ds = [.scr K ns, .int at_] ∧ 0 ≤ at_ ∧ d = T2 LS LP (netNames ns at_, netArrows ns at_)
theorem ok_law_net {f : Addr} {fd : FuncData} (F : Fun K "_law_net" "_law_net" s_law_net f fd) (T : Gb K mg N S) (c__law_cell_at : Cal P w K mg base "_law_cell_at" ["_law_script", "_law_k"] 1 (spD (R_cell_at K)))
    (c__law_picked : Cal P w K mg base "_law_picked" ["_law_cell", "_law_most"] 2 (spD R_picked)) (c__law_names : Cal P w K mg base "_law_names" ["_law_cell", "_law_many"] 3 (spN R_names))
    (c__law_arrows : Cal P w K mg base "_law_arrows" ["_law_cell", "_law_boxes", "_law_many"] 3 (spN R_arrows)) : FnOk P w K mg base CX0 4 f fd ["_law_script", "_law_at"] (spD (R_net K)) := by
  refine fn_dat F sc_law_net (by rintro _ _ ⟨_, _, rfl, _⟩; rfl) fun cdv A outer s H E hr ds d h => ?_
  obtain ⟨ns, at_, rfl, h0, rfl⟩ := h
  obtain ⟨b1, b2⟩ := boxesOf_in ns at_
  obtain ⟨p1, p2⟩ := picked_in (cell := cellAt ns (at_ + 3)) (most := 25) (by decide)
  refine ⟨_, (pss_cons (ps_set (i := 2) sc_law_net.nd rfl (.inl rfl) (pe_op op_addA pe_int (pe_callC c__law_picked (hr.mono (by decide)) (by rfl) (pa_cons (pe_callC c__law_cell_at (hr.mono (by decide)) (by rfl) (pa_cons (pv 0) (pa_cons (pv 1) pa_nil))) (pa_cons pe_int pa_nil)))))
      (pss_cons (ps_set (i := 3) sc_law_net.nd rfl (.inl rfl) (pe_callC c__law_names (hr.mono (by decide)) (by rfl) (pa_cons (pe_callC c__law_cell_at (hr.mono (by decide)) (by rfl) (pa_cons (pv 0) (pa_cons (pe_op op_addA (pv 1) pe_int) pa_nil))) (pa_cons (pv 2) pa_nil))))
      (pss_cons (ps_set (i := 4) sc_law_net.nd rfl (.inl rfl) (pe_callC c__law_arrows (hr.mono (by decide)) (by rfl) (pa_cons (pe_callC c__law_cell_at (hr.mono (by decide)) (by rfl) (pa_cons (pv 0) (pa_cons (pe_op op_addA (pv 1) pe_int) pa_nil))) (pa_cons (pv 2) (pa_cons (pe_callC c__law_picked (hr.mono (by decide)) (by rfl) (pa_cons (pe_callC c__law_cell_at (hr.mono (by decide)) (by rfl) (pa_cons (pv 0) (pa_cons (pe_op op_addA (pv 1) pe_int) pa_nil))) (pa_cons pe_int pa_nil))) pa_nil)))))
      (pss_one (ps_ret (pe_tup (pa_cons (pv 3) (pa_cons (pv 4) pa_nil)))))))), ?_⟩
  try dsimp only [L2.cxOf, L2.Cx.nox, L2.Cx.wish]
  refine blk_set (d := .int (boxesOf ns at_)) (ev_add (Ev.b ev_int) (Ev.b (ev_call (R := R_picked) (ea_cons (ev_call (R := R_cell_at K) (by walk_at "ev") ⟨ns, at_, rfl, h0, rfl⟩) (ea_cons ev_int ea_nil)) ⟨_, _, rfl, by decide, rfl⟩))) ?_
  refine blk_set (d := LS (netNames ns at_)) (EvN.e (evn_call (RN := R_names) (ea_cons (ev_call (R := R_cell_at K) (by walk_at "ev") ⟨ns, at_ + 1, rfl, by omega, rfl⟩) (ea_cons (ev_var rfl) ea_nil)) ⟨_, _, rfl, by omega, b2, rfl⟩)) ?_
  refine blk_set (d := LP (netArrows ns at_)) (EvN.e (evn_call (RN := R_arrows) (ea_cons (ev_call (R := R_cell_at K) (by walk_at "ev") ⟨ns, at_ + 2, rfl, by omega, rfl⟩) (ea_cons (ev_var rfl) (ea_cons (ev_call (R := R_picked) (ea_cons (ev_call (R := R_cell_at K) (by walk_at "ev") ⟨ns, at_ + 3, rfl, by omega, rfl⟩) (ea_cons ev_int ea_nil)) ⟨_, _, rfl, by decide, rfl⟩) ea_nil)))
    ⟨_, _, _, rfl, b1, b2, p1, by omega, rfl⟩)) ?_
  exact blk_ret (ev_pair (f := LS) (g' := LP) (ev_var rfl) (ev_var rfl))

end
end Dl

namespace Dl
open PySem L2
local macro_rules | `(tactic| walk_at "le") => `(tactic| repeat (first | exact LeE.nil | refine LeE.keep ?_ | refine LeE.drop ?_))
local macro_rules | `(tactic| walk_at "e") => `(tactic| first
  | (with_reducible apply Ev.b); walk_at "e"
  | (with_reducible apply ev_var); exact rfl
  | with_reducible apply ev_int
  | with_reducible apply ev_str
  | with_reducible apply ev_bl
  | with_reducible apply ev_non
  | with_reducible apply evb_own
  | ((with_reducible apply ev_add) <;> walk_at "e")
  | ((with_reducible apply ev_sub) <;> walk_at "e")
  | ((with_reducible apply ev_mod) <;> first | walk_at "e" | skip)
  | ((with_reducible apply ev_div) <;> first | walk_at "e" | skip)
  | ((with_reducible apply ev_mul) <;> first | walk_at "e" | skip)
  | ((with_reducible apply ev_pow) <;> first | walk_at "e" | skip)
  | ((with_reducible apply ev_lt) <;> walk_at "e")
  | ((with_reducible apply ev_le) <;> walk_at "e")
  | ((with_reducible apply ev_gt) <;> walk_at "e")
  | ((with_reducible apply ev_ge) <;> walk_at "e")
  | ((with_reducible apply ev_len) <;> walk_at "e")
  | ((with_reducible apply ev_lenR) <;> walk_at "e")
  | with_reducible apply ea_nil
  | with_reducible apply eb_nil
  | ((with_reducible apply ea_cons) <;> walk_at "e")
  | ((with_reducible apply eb_cons) <;> walk_at "e")
  | ((with_reducible apply et_test) <;> walk_at "e")
  | ((with_reducible apply et_B) <;> walk_at "e"))
local macro_rules | `(tactic| walk_at "ev") => `(tactic| (walk_at "e" <;> first | done | decide | omega | assumption | exact cmul_l (by decide) (by decide) | exact cmul_r (by decide) (by decide) | exact cpow_mk (by decide) (by decide) (by decide) | exact cdiv_mk (by decide) (by decide)))
section
variable {P : Program} {w : World} {K : PySem.W.Frag} {mg : Str → Option Value} {base : Heap} {N S : Addr}
/-! ### an order of the boxes -/
theorem enumL_take {α : Type} (us : List α) (i : Nat) (x : Nat × α) (h : (enumL us)[i]? = some x) : x.1 = i ∧ us[i]? = some x.2 := by
  unfold enumL at h
  rw [List.getElem?_map, List.getElem?_zipIdx] at h
  cases q : us[i]? with
  | none => rw [q] at h; cases h
  | some u =>
    rw [q] at h
    have h' : (0 + i, u) = x := Option.some.inj h
    rw [← h']
    exact ⟨Nat.zero_add i, rfl⟩
theorem enumL_length {α : Type} (us : List α) : (enumL us).length = us.length := by
  unfold enumL
  rw [List.length_map, List.length_zipIdx]
def orStep (s : List Int) (p : Nat × Int) : List Int := s.take (p.2 % ((p.1 : Int) + 1)).toNat ++ [(p.1 : Int)] ++ s.drop (p.2 % ((p.1 : Int) + 1)).toNat
def orderOf (cell many : Int) : List Int := (enumL (digits cell 36 many)).foldl orStep []
theorem or_perm (ds : List Int) : ∀ i : Nat, i ≤ ds.length → (((enumL ds).take i).foldl orStep []).Perm ((List.range i).map fun k : Nat => (k : Int))
  | 0, _ => by rw [List.take_zero]; exact List.Perm.refl _
  | i + 1, h => by
    have ih := or_perm ds i (by omega)
    have hl : i < (enumL ds).length := by rw [enumL_length]; omega
    obtain ⟨x, hx⟩ : ∃ x, (enumL ds)[i]? = some x := ⟨_, List.getElem?_eq_getElem hl⟩
    obtain ⟨e1, _⟩ := enumL_take ds i x hx
    rw [List.take_add_one, hx, List.foldl_append, List.range_succ, List.map_append]
    show (orStep (((enumL ds).take i).foldl orStep []) x).Perm _
    generalize ((enumL ds).take i).foldl orStep [] = s at ih
    unfold orStep
    rw [e1]
    refine List.Perm.trans ?_ (ih.append (List.Perm.refl _))
    have p1 : (s.take (x.2 % ((i : Int) + 1)).toNat ++ [(i : Int)] ++ s.drop (x.2 % ((i : Int) + 1)).toNat).Perm (s.take (x.2 % ((i : Int) + 1)).toNat ++ s.drop (x.2 % ((i : Int) + 1)).toNat ++ [(i : Int)]) := by
      rw [List.append_assoc, List.append_assoc]
      exact (List.Perm.refl _).append List.perm_append_comm
    rw [List.take_append_drop] at p1
    exact p1
/-- order is an order of the boxes 0 .. n - 1 -/
structure IsOrder (n : Nat) (order : List Int) : Prop where
  len : order.length = n
  nd : order.Nodup
  mem : ∀ x : Int, x ∈ order ↔ 0 ≤ x ∧ x < n
theorem isOrder_of {n : Nat} {order : List Int} (h : order.Perm ((List.range n).map fun k : Nat => (k : Int))) : IsOrder n order := by
  refine ⟨?_, ?_, fun x => ?_⟩
  · rw [h.length_eq, List.length_map, List.length_range]
  · refine h.nodup_iff.mpr ?_
    refine List.Pairwise.map _ (R := fun a b : Nat => a ≠ b) (fun a b q e => q (by omega)) List.nodup_range
  · rw [h.mem_iff, List.mem_map]
    constructor
    · rintro ⟨k, hk, rfl⟩
      have := List.mem_range.mp hk
      omega
    · rintro ⟨h1, h2⟩
      exact ⟨x.toNat, List.mem_range.mpr (by omega), by omega⟩
theorem orderOf_ok {cell many : Int} (h0 : 0 ≤ many) : IsOrder many.toNat (orderOf cell many) := by
  have h := or_perm (digits cell 36 many) (digits cell 36 many).length (Nat.le_refl _)
  rw [List.take_of_length_le (by rw [enumL_length]; exact Nat.le_refl _), digits_len] at h
  exact isOrder_of h
def R_order (ds : List Dt) (d : Dt) : Prop := ∃ cell many : Int, ds = [.int cell, .int many] ∧ 0 ≤ many ∧ many ≤ 12 ∧ d = LI (orderOf cell many)
theorem ok_law_order {f : Addr} {fd : FuncData} (F : Fun K "_law_order" "_law_order" s_law_order f fd) (T : Gb K mg N S) (c__law_digits : Cal P w K mg base "_law_digits" ["_law_cell", "_law_base", "_law_many"] 2 (spN R_digits)) :
    FnOk P w K mg base CX0 3 f fd ["_law_cell", "_law_many"] (spD R_order) := by
  refine fn_dat F sc_law_order (by rintro _ _ ⟨_, _, rfl, _⟩; rfl) fun cdv A outer s H E hr ds d h => ?_
  obtain ⟨c, m, rfl, h0, h1, rfl⟩ := h
  refine ⟨_, (pss_cons (ps_set (i := 2) sc_law_order.nd rfl (.inl rfl) (pe_lst pa_nil))
      (pss_cons (ps_for PassesOwn.never rfl (pi_enumA (by rfl) T.enumerate (pa_cons (pe_callC c__law_digits (hr.mono (by decide)) (by rfl) (pa_cons (pv 0) (pa_cons pe_int (pa_cons (pv 1) pa_nil)))) pa_nil)) (pg_tupK (K := K) (n := 2) rfl rfl (pgs_cons (pg_name (i := 3) sc_law_order.nd rfl (.inl rfl)) (pgs_cons (pg_name (i := 4) sc_law_order.nd rfl (.inl rfl)) pgs_nil)))
        (pss_cons (ps_set (i := 5) sc_law_order.nd rfl (.inl rfl) (pe_op op_modI (pv 4) (pe_op op_addA (pv 3) pe_int)))
        (pss_one (ps_set (i := 2) sc_law_order.nd rfl (.inl rfl) (pe_op op_addA (pe_op op_addA (pe_slice (slK (K := K) rfl) (pv 2) po_none (po_some (pv 5))) (pe_lst (pa_cons (pv 3) pa_nil))) (pe_slice (slK (K := K) rfl) (pv 2) (po_some (pv 5)) po_none))))))
      (pss_one (ps_ret (pv 2))))), ?_⟩
  try dsimp only [L2.cxOf, L2.Cx.nox, L2.Cx.wish]
  refine blk_set (d := LI []) (EvN.e (ev_lst ea_nil)) ?_
  refine blk_seq (sd_fold orStep [] (fun _ => noO) (fun s => [some (.int c), some (.int m), some (LI s), none, none, none])
    (it_enumL (us := digits c 36 m) (EvN.e (evn_call (ds := [.int c, .int 36, .int m]) (by walk_at "ev") ⟨_, _, _, rfl, by decide, by decide, h0, by omega, rfl⟩))) rfl (by walk_at "le") ?_) (blk_ret (ev_var rfl))
  intro i x hx s hs
  obtain ⟨e1, e2⟩ := enumL_take _ i x hx
  have hil : i < (digits c 36 m).length := (List.getElem?_eq_some_iff.mp e2).1
  rw [digits_len] at hil
  have hp := (or_perm (digits c 36 m) i (by rw [digits_len]; omega)).length_eq
  rw [← hs, List.length_map, List.length_range] at hp
  have b1 := Int.emod_nonneg x.2 (show (x.1 : Int) + 1 ≠ 0 by omega)
  refine ⟨_, _, tg_pair (tg_name (nin rfl)) (tg_name (nin rfl)), ?_⟩
  refine sds_setE (.int (x.2 % ((x.1 : Int) + 1))) (by walk_at "ev") (by rfl) ?_
  refine sd1_set (LI (orStep s x)) (EvN.e (ev_cat (EvN.e (ev_cat (EvN.e (ev_take (f := Dt.int) (us := s) (ev_var rfl) (by walk_at "ev") b1)) (EvN.e (ev_lst (ea_cons (ev_var rfl) ea_nil))) ?_)) (EvN.e (ev_drop (f := Dt.int) (us := s) (ev_var rfl) (by walk_at "ev") b1)) ?_)) ?_ (by walk_at "le")
  · rw [List.length_map, List.length_take, List.length_singleton]
    omega
  · rw [List.length_append, List.length_map, List.length_take, List.length_singleton, List.length_map, List.length_drop]
    omega
  · unfold orStep
    show Dt.lst _ = Dt.lst (List.map Dt.int _)
    rw [List.map_append, List.map_append]
    rfl

/-! ### turned arrows, as they go -/
/-- the arrows' ends stand in the order -/
def InOrd (order : List Int) (ps : List (Int × Int)) : Prop := ∀ p ∈ ps, p.1 ∈ order ∧ p.2 ∈ order
def back (order : List Int) (p : Int × Int) : Bool := decide (((order.idxOf p.2 : Nat) : Int) < ((order.idxOf p.1 : Nat) : Int))
def turnedOf (ps : List (Int × Int)) (order : List Int) : List Int := ((enumL ps).filter fun x => back order x.2).map fun x => (x.1 : Int)
def R_turned (ds es : List Dt) : Prop := ∃ (ps : List (Int × Int)) (order : List Int), ds = [LP ps, LI order] ∧ InOrd order ps ∧ ps.length ≤ 24 ∧ es = (turnedOf ps order).map .int
theorem ok_law_turned {f : Addr} {fd : FuncData} (F : Fun K "_law_turned" "_law_turned" s_law_turned f fd) (T : Gb K mg N S) : FnOk P w K mg base CX0 1 f fd ["_law_arrows_here", "_law_order_here"] (spN R_turned) := by
  refine fn_new F sc_law_turned (by rintro _ _ ⟨_, _, rfl, _⟩; rfl) fun cdv A outer s H E hr ds d h => ?_
  obtain ⟨ps, order, rfl, hin, hlen, rfl⟩ := h
  refine ⟨_, (pss_one (ps_ret (pe_lc (own := [("_law_k", 2), ("_law_arrow", 3)]) rfl sc_law_turned.nd (pi_enumA (by rfl) T.enumerate (pa_cons (pv 0) pa_nil)) (blkOk_by (own := [("_law_k", 2), ("_law_arrow", 3)]) (N := nm_law_turned) (sc := defScope s_law_turned) (by decide +kernel)) (fun _ _ _ _ _ => (pg_tupK (K := K) (n := 2) rfl rfl (pgs_cons (pg_name (i := 2) sc_law_turned.nd rfl (.inl rfl)) (pgs_cons (pg_name (i := 3) sc_law_turned.nd rfl (.inl rfl)) pgs_nil)))) (fun _ _ _ _ _ => (pts_one (pt_cmpR op_gtI (pe_bmK (K := K) rfl PySem.F.plainAttrs_list PySem.F.slot_list_index PySem.F.type_list_index (indexK (K := K) rfl) (pv 1) (pa_cons (pe_ix (ixK (K := K) rfl) (pv 3) pe_int (fun _ _ => rfl)) pa_nil)) (pe_bmK (K := K) rfl PySem.F.plainAttrs_list PySem.F.slot_list_index PySem.F.type_list_index (indexK (K := K) rfl) (pv 1) (pa_cons (pe_ix (ixK (K := K) rfl) (pv 3) pe_int (fun _ _ => rfl)) pa_nil)) (nomark _)))) (fun _ _ _ _ _ => (pv 2))))), ?_⟩
  try dsimp only [L2.cxOf, L2.Cx.nox, L2.Cx.wish]
  refine blk_retN (EvN.to (evn_lc (xs := enumL ps) (f := E2 PR) (fun x => back order x.2) (fun x => .int (x.1 : Nat)) (it_enumL (us := ps) (ev_var rfl)) (fun j hj => nin (by rfl)) (by rw [enumL_length]; omega) fun x hx => ?_) (by
    unfold turnedOf
    rw [List.map_map]
    rfl))
  obtain ⟨i, hi⟩ := List.getElem?_of_mem hx
  obtain ⟨e1, e2⟩ := enumL_take _ i x hi
  obtain ⟨m1, m2⟩ := hin x.2 (List.mem_of_getElem? e2)
  refine ⟨_, _, tg_pair (tg_name (nin rfl)) (tg_name (nin rfl)), fun j hj => hj, ?_, fun _ => ev_var rfl⟩
  exact et_test (Ev.b (ev_gt (Ev.b (ev_index (ns := order) (n := x.2.1) (Ev.b (ev_var rfl)) (Ev.b (ev_fst (f := Dt.int) (g' := Dt.int) (p := x.2) (ev_var rfl))) m1)) (Ev.b (ev_index (ns := order) (n := x.2.2) (Ev.b (ev_var rfl)) (Ev.b (ev_snd (f := Dt.int) (g' := Dt.int) (p := x.2) (ev_var rfl))) m2))))
def goWay (turned : List Int) (x : Nat × (Int × Int)) : Int × Int := if (x.1 : Int) ∈ turned then (x.2.2, x.2.1) else x.2
def goingOf (ps : List (Int × Int)) (turned : List Int) : List (Int × Int) := (enumL ps).map (goWay turned)
theorem fold_app {α β : Type} (f : α → β) : ∀ (xs : List α) (s : List β), xs.foldl (fun s x => s ++ [f x]) s = s ++ xs.map f
  | [], s => (List.append_nil s).symm
  | x :: xs, s => by
    rw [List.foldl_cons, fold_app f xs, List.map_cons, List.append_assoc]
    rfl
def R_going (ds es : List Dt) : Prop := ∃ (ps : List (Int × Int)) (turned : List Int), ds = [LP ps, LI turned] ∧ ps.length ≤ 24 ∧ es = (goingOf ps turned).map PR
theorem ok_law_going {f : Addr} {fd : FuncData} (F : Fun K "_law_going" "_law_going" s_law_going f fd) (T : Gb K mg N S) : FnOk P w K mg base CX0 1 f fd ["_law_arrows_here", "_law_turned_here"] (spN R_going) := by
  refine fn_new F sc_law_going (by rintro _ _ ⟨_, _, rfl, _⟩; rfl) fun cdv A outer s H E hr ds d h => ?_
  obtain ⟨ps, turned, rfl, hlen, rfl⟩ := h
  refine ⟨_, (pss_cons (ps_set (i := 2) sc_law_going.nd rfl (.inl rfl) (pe_lst pa_nil))
      (pss_cons (ps_for PassesOwn.never rfl (pi_enumA (by rfl) T.enumerate (pa_cons (pv 0) pa_nil)) (pg_tupK (K := K) (n := 2) rfl rfl (pgs_cons (pg_name (i := 3) sc_law_going.nd rfl (.inl rfl)) (pgs_cons (pg_name (i := 4) sc_law_going.nd rfl (.inl rfl)) pgs_nil)))
        (pss_one (ps_if (pt_cmpR (inK (K := K) rfl (Room.u65 hr)) (pv 3) (pv 1) (by rfl))
          (pss_one (ps_expr (pe_bmK (K := K) rfl PySem.F.plainAttrs_list PySem.F.slot_list_append PySem.F.type_list_append mt_append (pv 2) (pa_cons (pe_tup (pa_cons (pe_ix (ixK (K := K) rfl) (pv 4) pe_int (fun _ _ => rfl)) (pa_cons (pe_ix (ixK (K := K) rfl) (pv 4) pe_int (fun _ _ => rfl)) pa_nil))) pa_nil))))
          (pss_one (ps_expr (pe_bmK (K := K) rfl PySem.F.plainAttrs_list PySem.F.slot_list_append PySem.F.type_list_append mt_append (pv 2) (pa_cons (pv 4) pa_nil)))))))
      (pss_one (ps_ret (pv 2))))), ?_⟩
  try dsimp only [L2.cxOf, L2.Cx.nox, L2.Cx.wish]
  refine blk_new (ev_lst ea_nil) ?_
  have e : goingOf ps turned = (enumL ps).foldl (fun s x => s ++ [goWay turned x]) [] := by
    rw [fold_app]
    rfl
  rw [e]
  refine blk_seq (sd_fold (fun s x => s ++ [goWay turned x]) [] (fun s => ol 2 (s.map PR)) (fun s => [some (LP ps), some (LI turned), none, none, none]) (it_enumL (us := ps) (ev_var rfl)) rfl (by walk_at "le") ?_) blk_retO
  intro i x hx s hs
  have hl : s.length < 100000 := by
    rw [hs, fold_app, List.length_append, List.length_map, List.length_take, enumL_length]
    show 0 + _ < _
    omega
  refine ⟨_, _, tg_pair (tg_name (nin rfl)) (tg_name (nin rfl)), ?_⟩
  refine sd_if (et_test (Ev.b (ev_inI (n := (x.1 : Int)) (ns := turned) (by walk_at "ev") (Ev.b (ev_var rfl))))) (fun hc => ?_) fun hc => ?_
  · have eg : goWay turned x = (x.2.2, x.2.1) := if_pos (of_decide_eq_true hc)
    exact sd1_app (d := PR (x.2.2, x.2.1)) (ev_pair (f := Dt.int) (g' := Dt.int) (ev_snd (f := Dt.int) (g' := Dt.int) (p := x.2) (ev_var rfl)) (ev_fst (f := Dt.int) (g' := Dt.int) (p := x.2) (ev_var rfl))) (by rw [eg, List.map_append]; rfl) (by walk_at "le") (by rw [List.length_map]; exact hl)
  · have eg : goWay turned x = x.2 := if_neg (of_decide_eq_false hc)
    exact sd1_app (d := PR x.2) (ev_var rfl) (by rw [eg, List.map_append]; rfl) (by walk_at "le") (by rw [List.length_map]; exact hl)

end
end Dl

namespace Dl
open PySem L2
local macro_rules | `(tactic| walk_at "le") => `(tactic| repeat (first | exact LeE.nil | refine LeE.keep ?_ | refine LeE.drop ?_))
local macro_rules | `(tactic| walk_at "e") => `(tactic| first
  | (with_reducible apply Ev.b); walk_at "e"
  | (with_reducible apply ev_var); exact rfl
  | with_reducible apply ev_int
  | with_reducible apply ev_str
  | with_reducible apply ev_bl
  | with_reducible apply ev_non
  | with_reducible apply evb_own
  | ((with_reducible apply ev_add) <;> walk_at "e")
  | ((with_reducible apply ev_sub) <;> walk_at "e")
  | ((with_reducible apply ev_mod) <;> first | walk_at "e" | skip)
  | ((with_reducible apply ev_div) <;> first | walk_at "e" | skip)
  | ((with_reducible apply ev_mul) <;> first | walk_at "e" | skip)
  | ((with_reducible apply ev_pow) <;> first | walk_at "e" | skip)
  | ((with_reducible apply ev_lt) <;> walk_at "e")
  | ((with_reducible apply ev_le) <;> walk_at "e")
  | ((with_reducible apply ev_gt) <;> walk_at "e")
  | ((with_reducible apply ev_ge) <;> walk_at "e")
  | ((with_reducible apply ev_len) <;> walk_at "e")
  | ((with_reducible apply ev_lenR) <;> walk_at "e")
  | with_reducible apply ea_nil
  | with_reducible apply eb_nil
  | ((with_reducible apply ea_cons) <;> walk_at "e")
  | ((with_reducible apply eb_cons) <;> walk_at "e")
  | ((with_reducible apply et_test) <;> walk_at "e")
  | ((with_reducible apply et_B) <;> walk_at "e"))
local macro_rules | `(tactic| walk_at "ev") => `(tactic| (walk_at "e" <;> first | done | decide | omega | assumption | exact cmul_l (by decide) (by decide) | exact cmul_r (by decide) (by decide) | exact cpow_mk (by decide) (by decide) (by decide) | exact cdiv_mk (by decide) (by decide)))
section
variable {P : Program} {w : World} {K : PySem.W.Frag} {mg : Str → Option Value} {base : Heap} {N S : Addr}
/-! ### heights -/
theorem mx0_ge {ns : List Int} : 0 ≤ mx (0 :: ns) := mx_ge List.mem_cons_self
theorem mx0_mem {ns : List Int} {y : Int} (h : y ∈ ns) : y ≤ mx (0 :: ns) := mx_ge (List.mem_cons_of_mem _ h)
theorem mx0_le {ns : List Int} {b : Int} (h0 : 0 ≤ b) (h : ∀ y ∈ ns, y ≤ b) : mx (0 :: ns) ≤ b := by
  rcases List.mem_cons.mp (mx_mem (ns := 0 :: ns) (List.cons_ne_nil _ _)) with e | e
  · rw [e]; exact h0
  · exact h _ e
/-- s at the box b -/
def at_ (s : List Int) (b : Int) : Int := s.getD b.toNat 0
theorem at_get {s : List Int} {b : Int} (h0 : 0 ≤ b) (h1 : b < (s.length : Int)) : s[b.toNat]? = some (at_ s b) := by
  unfold at_
  rw [List.getD_eq_getElem?_getD, List.getElem?_eq_getElem (by omega)]
  rfl
theorem at_set_self {s : List Int} {b v : Int} (h0 : 0 ≤ b) (h1 : b < (s.length : Int)) : at_ (s.set b.toNat v) b = v := by
  unfold at_
  rw [List.getD_eq_getElem?_getD, List.getElem?_set_self (by omega)]
  rfl
theorem at_set_ne {s : List Int} {b c v : Int} (h0 : 0 ≤ b) (h0' : 0 ≤ c) (h : c ≠ b) : at_ (s.set b.toNat v) c = at_ s c := by
  unfold at_
  rw [List.getD_eq_getElem?_getD, List.getD_eq_getElem?_getD, List.getElem?_set_ne (by omega)]
def upHt (go : List (Int × Int)) (s : List Int) (box : Int) : Int := mx (0 :: (go.filter fun p => decide (p.1 = box)).map fun p => 1 + at_ s p.2)
def htStep (go : List (Int × Int)) (s : List Int) (box : Int) : List Int := s.set box.toNat (upHt go s box)
def heights (go : List (Int × Int)) (order : List Int) : List Int := order.reverse.foldl (htStep go) (List.replicate order.length 0)
/-- all ends are boxes -/
def EndsIn (n : Nat) (ps : List (Int × Int)) : Prop := ∀ p ∈ ps, 0 ≤ p.1 ∧ p.1 < n ∧ 0 ≤ p.2 ∧ p.2 < n
theorem ht_len {go : List (Int × Int)} : ∀ (bs : List Int) (s : List Int), (bs.foldl (htStep go) s).length = s.length
  | [], _ => rfl
  | b :: bs, s => by
    rw [List.foldl_cons, ht_len bs]
    exact List.length_set
theorem heights_len {go : List (Int × Int)} {order : List Int} : (heights go order).length = order.length := by
  unfold heights
  rw [ht_len, List.length_replicate]
def R_heights (ds es : List Dt) : Prop := ∃ (n : Nat) (go : List (Int × Int)) (order : List Int), ds = [LP go, LI order] ∧ IsOrder n order ∧ n ≤ 12 ∧ EndsIn n go ∧ go.length ≤ 24 ∧ es = (heights go order).map .int
theorem ok_law_heights {f : Addr} {fd : FuncData} (F : Fun K "_law_heights" "_law_heights" s_law_heights f fd) (T : Gb K mg N S) : FnOk P w K mg base CX0 1 f fd ["_law_going_here", "_law_order_here"] (spN R_heights) := by
  refine fn_new F sc_law_heights (by rintro _ _ ⟨_, _, _, rfl, _⟩; rfl) fun cdv A outer s H E hr ds d h => ?_
  obtain ⟨n, go, order, rfl, ho, hn, he, hlen, rfl⟩ := h
  refine ⟨_, (pss_cons (ps_set (i := 2) sc_law_heights.nd rfl (.inr rfl) (pe_op op_mulA (pe_lst (pa_cons pe_int pa_nil)) (pe_callB (lenK (K := K) rfl) (by rfl) T.len b_len (pa_cons (pv 1) pa_nil))))
      (pss_cons (ps_for PassesOwn.never rfl (pi_reversed (by rfl) T.reversed (pa_cons (pv 1) pa_nil)) (pg_name (i := 3) sc_law_heights.nd rfl (.inr rfl))
        (pss_one (ps_asg (pe_callB (maxK (K := K) rfl rfl) (by rfl) T.max b_max (pa_cons (pe_op op_addA (pe_lst (pa_cons pe_int pa_nil)) (pe_lc (own := [("_law_a", 4), ("_law_b", 5)]) rfl sc_law_heights.nd (pi_any (pv 0)) (blkOk_by (own := [("_law_a", 4), ("_law_b", 5)]) (N := nm_law_heights) (sc := defScope s_law_heights) (by decide +kernel)) (fun _ _ _ _ _ => (pg_tupK (K := K) (n := 2) rfl rfl (pgs_cons (pg_name (i := 4) sc_law_heights.nd rfl (.inl rfl)) (pgs_cons (pg_name (i := 5) sc_law_heights.nd rfl (.inl rfl)) pgs_nil)))) (fun _ _ _ _ _ => (pts_one (pt_cmpR (eqK (K := K) rfl hr.units) (pv 4) (pv 3) (nomark _)))) (fun _ _ _ _ _ => (pe_op op_addA pe_int (pe_ix (ixK (K := K) rfl) (pv 2) (pv 5) (fun _ _ => rfl)))))) pa_nil)) (pg_sub (pv 2) (pv 3) set_list))))
      (pss_one (ps_ret (pv 2))))), ?_⟩
  try dsimp only [L2.cxOf, L2.Cx.nox, L2.Cx.wish]
  refine blk_new (ds := (List.replicate order.length (0 : Int)).map .int) (EvN.to (ev_rep (x := .int 0) (a := (order.length : Int)) (EvN.e (ev_lst (ea_cons ev_int ea_nil))) (by walk_at "ev") (by omega) (by have := ho.len; omega)) (by rw [List.map_replicate, Int.toNat_natCast])) ?_
  refine blk_seq (sd_fold (htStep go) (List.replicate order.length 0) (fun s => ol 2 (s.map .int)) (fun _ => [some (LP go), some (LI order), none, none, none, none]) (xs := order.reverse) (f := Dt.int) (Itd.to (itd_rev (ds := order.map .int) (Ev.to (ev_var (d := LI order) rfl) rfl)) List.map_reverse.symm) rfl (by walk_at "le") ?_) blk_retO
  intro i x hx s hs
  have hxm := (ho.mem x).mp (List.mem_reverse.mp (List.mem_of_getElem? hx))
  have hsl : s.length = n := by rw [hs, ht_len, List.length_replicate, ho.len]
  refine ⟨_, _, tg_name (nin rfl), ?_⟩
  refine sd1_setI (v := upHt go s x) (a := x) (ev_maxL (ns := 0 :: (go.filter fun p => decide (p.1 = x)).map fun p => 1 + at_ s p.2) (Ev.b (EvN.e (EvN.to (ev_cat (xs := [.int 0]) (ys := (go.filter fun p => decide (p.1 = x)).map fun p => .int (1 + at_ s p.2)) (EvN.e (ev_lst (ea_cons ev_int ea_nil))) (EvN.e ?_) ?_) ?_))) (List.cons_ne_nil _ _)) (by walk_at "ev") hxm.1 (by omega) rfl (by walk_at "le")
  · refine evn_lc (xs := go) (f := PR) (fun p => decide (p.1 = x)) (fun p => .int (1 + at_ s p.2)) (it_L (us := go) (ev_var rfl)) (fun j hj => nin (by
      rcases List.mem_cons.mp hj with rfl | hj
      · rfl
      · rw [List.mem_singleton.mp hj]; rfl)) (by omega) fun p hp => ?_
    obtain ⟨e1, e2, e3, e4⟩ := he p hp
    refine ⟨_, _, tg_pair (tg_name (nin rfl)) (tg_name (nin rfl)), fun j hj => hj, ?_, fun _ => ?_⟩
    · exact et_test (Ev.b (ev_eq (u := p.1) (v := x) enc_int (by walk_at "ev") (by walk_at "ev") lay_int lay_int))
    · exact ev_add (Ev.b ev_int) (evb_ix (f := Dt.int) (us := s) evb_own (by walk_at "ev") e3 (at_get e3 (by omega)))
  · rw [List.length_map]
    have := List.length_filter_le (fun p : Int × Int => decide (p.1 = x)) go
    show 1 + _ ≤ 1000
    omega
  · show _ = List.map Dt.int (0 :: _)
    rw [List.map_cons, List.map_map]
    rfl

/-! ### rows -/
def least (go : List (Int × Int)) (s : List Int) (box : Int) : Int := mx (0 :: (go.filter fun p => decide (p.2 = box)).map fun p => 1 + at_ s p.1)
def more (go : List (Int × Int)) (ht : List Int) (most : Int) (close : Bool) (s : List Int) (x : Int × Int) : Int :=
  if close = true then min (x.2 % (most - least go s x.1 - at_ ht x.1)) (x.2 / 12 % 3 / 2) else x.2 % (most - least go s x.1 - at_ ht x.1)
def rwStep (go : List (Int × Int)) (ht : List Int) (most : Int) (close : Bool) (s : List Int) (x : Int × Int) : List Int := s.set x.1.toNat (least go s x.1 + more go ht most close s x)
def rowsOf (go : List (Int × Int)) (order : List Int) (cell : Int) (close : Bool) : List Int :=
  (order.zip (digits cell 144 (order.length : Int))).foldl (rwStep go (heights go order) (max 12 (order.length : Int)) close) (List.replicate order.length 0)
/-- along the order all arrows go forward -/
def Fwd (order : List Int) (go : List (Int × Int)) : Prop := ∀ p ∈ go, p.1 ∈ order ∧ p.2 ∈ order ∧ order.idxOf p.1 < order.idxOf p.2
theorem idx_app {pre post : List Int} {b x : Int} (hnd : (pre ++ b :: post).Nodup) (hx : x ∈ pre ++ b :: post) : ((pre ++ b :: post).idxOf x < (pre ++ b :: post).idxOf b → x ∈ pre) ∧ ((pre ++ b :: post).idxOf b < (pre ++ b :: post).idxOf x → x ∈ post) := by
  have hb : b ∉ pre := fun z => (List.nodup_append.mp hnd).2.2 b z b List.mem_cons_self rfl
  have eb : (pre ++ b :: post).idxOf b = pre.length := by
    rw [List.idxOf_append, if_neg hb, List.idxOf_cons_self, Nat.zero_add]
  rw [eb]
  constructor
  · intro h
    refine Decidable.byContradiction fun z => ?_
    rw [List.idxOf_append, if_neg z] at h
    omega
  · intro h
    rcases List.mem_append.mp hx with q | q
    · rw [List.idxOf_append, if_pos q] at h
      have := List.idxOf_lt_length_of_mem q
      omega
    · rcases List.mem_cons.mp q with e | e
      · rw [e, eb] at h
        omega
      · exact e
/-- what holds of heights behind the boxes t, all of an end of the order -/
theorem ht_ok {n : Nat} {go : List (Int × Int)} {order : List Int} (ho : IsOrder n order) (hf : Fwd order go) : ∀ (t pre : List Int), order = pre ++ t → ∀ s, s = t.reverse.foldl (htStep go) (List.replicate n 0) →
    (∀ x ∈ t, 0 ≤ at_ s x ∧ at_ s x ≤ (t.length : Int) - 1) ∧ ∀ p ∈ go, p.1 ∈ t → 1 + at_ s p.2 ≤ at_ s p.1
  | [], pre, _, s, _ => ⟨fun x hx => (by cases hx), fun p _ hp => (by cases hp)⟩
  | b :: t, pre, e, s, hs => by
    have e' : order = (pre ++ [b]) ++ t := by rw [e, List.append_assoc]; rfl
    obtain ⟨h1, h2⟩ := ht_ok ho hf t (pre ++ [b]) e' _ rfl
    have hs' : s = htStep go (t.reverse.foldl (htStep go) (List.replicate n 0)) b := by
      rw [hs, List.reverse_cons, List.foldl_append]
      rfl
    have hlen : (t.reverse.foldl (htStep go) (List.replicate n 0)).length = n := by rw [ht_len, List.length_replicate]
    generalize t.reverse.foldl (htStep go) (List.replicate n 0) = s0 at hs' h1 h2 hlen
    have hnd := ho.nd
    rw [e] at hnd
    have hbt : b ∉ t := (List.nodup_cons.mp (List.nodup_append.mp hnd).2.1).1
    have hbm := (ho.mem b).mp (by rw [e]; exact List.mem_append_right _ List.mem_cons_self)
    have inT : ∀ x ∈ t, 0 ≤ x := fun x hx => ((ho.mem x).mp (by rw [e]; exact List.mem_append_right _ (List.mem_cons_of_mem _ hx))).1
    have old : ∀ x ∈ t, at_ s x = at_ s0 x := fun x hx => by
      rw [hs']
      exact at_set_ne hbm.1 (inT x hx) fun z => hbt (by rw [← z]; exact hx)
    have new : at_ s b = upHt go s0 b := by
      rw [hs']
      exact at_set_self hbm.1 (by omega)
    have aft : ∀ p ∈ go, p.1 ∈ b :: t → p.2 ∈ t := fun p hp hm => by
      obtain ⟨m1, m2, m3⟩ := hf p hp
      rcases List.mem_cons.mp hm with q | q
      · rw [q] at m3
        rw [e] at m2 m3
        exact (idx_app hnd m2).2 m3
      · obtain ⟨t1, t2, et⟩ := List.append_of_mem q
        have e2 : order = (pre ++ b :: t1) ++ p.1 :: t2 := by rw [e, et, List.append_assoc]; rfl
        rw [e2] at m2 m3
        have hnd2 := ho.nd
        rw [e2] at hnd2
        have := (idx_app hnd2 m2).2 m3
        rw [et]
        exact List.mem_append_right _ (List.mem_cons_of_mem _ this)
    refine ⟨fun x hx => ?_, fun p hp hm => ?_⟩
    · rw [List.length_cons]
      rcases List.mem_cons.mp hx with q | q
      · rw [q, new]
        refine ⟨mx0_ge, ?_⟩
        unfold upHt
        refine mx0_le (by omega) fun y hy => ?_
        obtain ⟨p, hp, rfl⟩ := List.mem_map.mp hy
        obtain ⟨hp1, hp2⟩ := List.mem_filter.mp hp
        have := (h1 p.2 (aft p hp1 (by rw [of_decide_eq_true hp2]; exact List.mem_cons_self))).2
        omega
      · rw [old x q]
        have := h1 x q
        omega
    · have hb2 := aft p hp hm
      rw [old _ hb2]
      rcases List.mem_cons.mp hm with q | q
      · rw [q, new]
        exact mx0_mem (List.mem_map.mpr ⟨p, List.mem_filter.mpr ⟨hp, decide_eq_true q⟩, rfl⟩)
      · rw [old _ q]
        exact h2 p hp q
theorem heights_ok {n : Nat} {go : List (Int × Int)} {order : List Int} (ho : IsOrder n order) (hf : Fwd order go) :
    (∀ x ∈ order, 0 ≤ at_ (heights go order) x ∧ at_ (heights go order) x ≤ (n : Int) - 1) ∧ ∀ p ∈ go, 1 + at_ (heights go order) p.2 ≤ at_ (heights go order) p.1 := by
  have h := ht_ok ho hf order [] rfl (heights go order) (by unfold heights; rw [ho.len])
  rw [ho.len] at h
  exact ⟨h.1, fun p hp => h.2 p hp (hf p hp).1⟩
theorem rw_len {go : List (Int × Int)} {ht : List Int} {most : Int} {close : Bool} : ∀ (bs : List (Int × Int)) (s : List Int), (bs.foldl (rwStep go ht most close) s).length = s.length
  | [], _ => rfl
  | b :: bs, s => by
    rw [List.foldl_cons, rw_len bs]
    exact List.length_set
/-- the modulus of a turn, and what follows of it -/
structure RwInv (n : Nat) (go : List (Int × Int)) (ht : List Int) (pre : List Int) (s : List Int) : Prop where
  len : s.length = n
  val : ∀ x ∈ pre, 0 ≤ at_ s x ∧ at_ s x + at_ ht x ≤ 11
  dn : ∀ p ∈ go, p.2 ∈ pre → at_ s p.1 < at_ s p.2
theorem rw_mod {n : Nat} {go : List (Int × Int)} {order pre post ht s : List Int} {b : Int} (ho : IsOrder n order) (hf : Fwd order go) (e : order = pre ++ b :: post) (h12 : n ≤ 12)
    (hh : ∀ x ∈ order, 0 ≤ at_ ht x ∧ at_ ht x ≤ (n : Int) - 1) (h2 : ∀ p ∈ go, 1 + at_ ht p.2 ≤ at_ ht p.1) (I : RwInv n go ht pre s) : 0 ≤ least go s b ∧ least go s b + at_ ht b ≤ 11 := by
  refine ⟨mx0_ge, ?_⟩
  have hb : b ∈ order := by rw [e]; exact List.mem_append_right _ List.mem_cons_self
  have h0 := hh b hb
  have hnd := ho.nd
  rw [e] at hnd
  have : least go s b ≤ 11 - at_ ht b := by
    unfold least
    refine mx0_le (by omega) fun y hy => ?_
    obtain ⟨p, hp, rfl⟩ := List.mem_map.mp hy
    obtain ⟨hp1, hp2⟩ := List.mem_filter.mp hp
    have hp2 := of_decide_eq_true hp2
    obtain ⟨m1, m2, m3⟩ := hf p hp1
    rw [hp2] at m3
    rw [e] at m1 m3
    have q := I.val p.1 ((idx_app hnd m1).1 m3)
    have q2 := h2 p hp1
    rw [hp2] at q2
    omega
  omega
theorem more_in {go : List (Int × Int)} {ht s : List Int} {most : Int} {close : Bool} {x : Int × Int} (hm : 0 < most - least go s x.1 - at_ ht x.1) (h0 : 0 ≤ x.2) : 0 ≤ more go ht most close s x ∧ more go ht most close s x < most - least go s x.1 - at_ ht x.1 := by
  have b1 := Int.emod_nonneg x.2 (show most - least go s x.1 - at_ ht x.1 ≠ 0 by omega)
  have b2 := Int.emod_lt_of_pos x.2 hm
  unfold more
  split
  · have c0 : 0 ≤ x.2 / 12 % 3 / 2 := by omega
    exact ⟨by omega, by omega⟩
  · exact ⟨b1, b2⟩
theorem rw_step {n : Nat} {go : List (Int × Int)} {order pre post ht s : List Int} {b num : Int} {close : Bool} (ho : IsOrder n order) (hf : Fwd order go) (e : order = pre ++ b :: post) (h12 : n ≤ 12)
    (hh : ∀ x ∈ order, 0 ≤ at_ ht x ∧ at_ ht x ≤ (n : Int) - 1) (h2 : ∀ p ∈ go, 1 + at_ ht p.2 ≤ at_ ht p.1) (h0 : 0 ≤ num) (I : RwInv n go ht pre s) : RwInv n go ht (pre ++ [b]) (rwStep go ht 12 close s (b, num)) := by
  obtain ⟨l1, l2⟩ := rw_mod ho hf e h12 hh h2 I
  have mm := more_in (go := go) (ht := ht) (s := s) (most := 12) (close := close) (x := (b, num)) (by show 0 < 12 - least go s b - at_ ht b; omega) h0
  have mm2 : more go ht 12 close s (b, num) < 12 - least go s b - at_ ht b := mm.2
  have hnd := ho.nd
  rw [e] at hnd
  have hbp : b ∉ pre := fun z => (List.nodup_append.mp hnd).2.2 b z b List.mem_cons_self rfl
  have hbm := (ho.mem b).mp (by rw [e]; exact List.mem_append_right _ List.mem_cons_self)
  have inP : ∀ x ∈ pre, 0 ≤ x := fun x hx => ((ho.mem x).mp (by rw [e]; exact List.mem_append_left _ hx)).1
  have hlen := I.len
  have old : ∀ x ∈ pre, at_ (rwStep go ht 12 close s (b, num)) x = at_ s x := fun x hx => at_set_ne hbm.1 (inP x hx) fun z => hbp (by
    have z' : x = b := z
    rw [← z']; exact hx)
  have new : at_ (rwStep go ht 12 close s (b, num)) b = least go s b + more go ht 12 close s (b, num) := at_set_self hbm.1 (by omega)
  have bef : ∀ p ∈ go, p.2 ∈ pre ++ [b] → p.1 ∈ pre := fun p hp hm => by
    obtain ⟨m1, m2, m3⟩ := hf p hp
    rcases List.mem_append.mp hm with q | q
    · obtain ⟨t1, t2, et⟩ := List.append_of_mem q
      have e2 : order = t1 ++ p.2 :: (t2 ++ b :: post) := by rw [e, et, List.append_assoc]; rfl
      rw [e2] at m1 m3
      have hnd2 := ho.nd
      rw [e2] at hnd2
      rw [et]
      exact List.mem_append_left _ ((idx_app hnd2 m1).1 m3)
    · rw [List.mem_singleton.mp q] at m3
      rw [e] at m1 m3
      exact (idx_app hnd m1).1 m3
  refine ⟨by rw [← hlen]; exact List.length_set, fun x hx => ?_, fun p hp hm => ?_⟩
  · rcases List.mem_append.mp hx with q | q
    · rw [old x q]
      exact I.val x q
    · rw [List.mem_singleton.mp q, new]
      omega
  · have h1 := bef p hp hm
    rw [old _ h1]
    rcases List.mem_append.mp hm with q | q
    · rw [old _ q]
      exact I.dn p hp q
    · rw [List.mem_singleton.mp q, new]
      have : 1 + at_ s p.1 ≤ least go s b := mx0_mem (List.mem_map.mpr ⟨p, List.mem_filter.mpr ⟨hp, decide_eq_true (List.mem_singleton.mp q)⟩, rfl⟩)
      omega
theorem rw_fold {n : Nat} {go : List (Int × Int)} {order ht : List Int} {close : Bool} (ho : IsOrder n order) (hf : Fwd order go) (h12 : n ≤ 12)
    (hh : ∀ x ∈ order, 0 ≤ at_ ht x ∧ at_ ht x ≤ (n : Int) - 1) (h2 : ∀ p ∈ go, 1 + at_ ht p.2 ≤ at_ ht p.1) (ds : List Int) (hd : ∀ d ∈ ds, 0 ≤ d) (hl : ds.length = order.length) :
    ∀ i : Nat, i ≤ order.length → RwInv n go ht (order.take i) (((order.zip ds).take i).foldl (rwStep go ht 12 close) (List.replicate n 0))
  | 0, _ => ⟨List.length_replicate, fun x hx => (by rw [List.take_zero] at hx; cases hx), fun p _ hp => (by rw [List.take_zero] at hp; cases hp)⟩
  | i + 1, h => by
    have ih := rw_fold (close := close) ho hf h12 hh h2 ds hd hl i (by omega)
    have hi : i < order.length := by omega
    have hi2 : i < ds.length := by omega
    have ez : (order.zip ds)[i]? = some (order[i], ds[i]) := by
      rw [List.zip_eq_zipWith, List.getElem?_zipWith, List.getElem?_eq_getElem hi, List.getElem?_eq_getElem hi2]
    have e : order = order.take i ++ order[i] :: order.drop (i + 1) := by
      rw [← List.drop_eq_getElem_cons hi, List.take_append_drop]
    rw [List.take_add_one (l := order.zip ds), ez, List.foldl_append, List.take_add_one, List.getElem?_eq_getElem hi]
    exact rw_step ho hf e h12 hh h2 (hd _ (List.getElem_mem hi2)) ih

theorem rowsOf_ok {n : Nat} {go : List (Int × Int)} {order : List Int} (ho : IsOrder n order) (hf : Fwd order go) (h12 : n ≤ 12) (cell : Int) (close : Bool) :
    RwInv n go (heights go order) order (rowsOf go order cell close) := by
  obtain ⟨h1, h2⟩ := heights_ok ho hf
  have hl : (digits cell 144 (order.length : Int)).length = order.length := by rw [digits_len, Int.toNat_natCast]
  have h := rw_fold (close := close) ho hf h12 h1 h2 (digits cell 144 (order.length : Int)) (fun d hd => (digits_mem (by decide) d hd).1) hl order.length (Nat.le_refl _)
  have e : max 12 (order.length : Int) = 12 := Int.max_eq_left (by rw [ho.len]; omega)
  unfold rowsOf
  rw [e]
  rw [List.take_of_length_le (Nat.le_refl _), List.take_of_length_le (by rw [List.length_zip]; omega)] at h
  rw [ho.len] at h ⊢
  exact h
def R_rows (ds : List Dt) (d : Dt) : Prop := ∃ (n : Nat) (go : List (Int × Int)) (order : List Int) (cell : Int) (close : Bool), ds = [LP go, LI order, .int cell, .bl close] ∧ IsOrder n order ∧ n ≤ 12 ∧ EndsIn n go ∧ Fwd order go ∧ go.length ≤ 24 ∧
  d = LI (rowsOf go order cell close)
theorem ok_law_rows {f : Addr} {fd : FuncData} (F : Fun K "_law_rows" "_law_rows" s_law_rows f fd) (T : Gb K mg N S) (c__law_digits : Cal P w K mg base "_law_digits" ["_law_cell", "_law_base", "_law_many"] 2 (spN R_digits))
    (c__law_heights : Cal P w K mg base "_law_heights" ["_law_going_here", "_law_order_here"] 1 (spN R_heights)) : FnOk P w K mg base CX0 3 f fd ["_law_going_here", "_law_order_here", "_law_cell", "_law_close"] (spD R_rows) := by
  refine fn_dat F sc_law_rows (by rintro _ _ ⟨_, _, _, _, _, rfl, _⟩; rfl) fun cdv A outer s H E hr ds d h => ?_
  obtain ⟨n, go, order, c, cl, rfl, ho, hn, he, hf, hlen, rfl⟩ := h
  obtain ⟨ht1, ht2⟩ := heights_ok ho hf
  have hol := ho.len
  have e12 : max 12 (order.length : Int) = 12 := Int.max_eq_left (by rw [hol]; omega)
  have hdl : (digits c 144 (order.length : Int)).length = order.length := by rw [digits_len, Int.toNat_natCast]
  refine ⟨_, (pss_cons (ps_set (i := 4) sc_law_rows.nd rfl (.inl rfl) (pe_callC c__law_heights (hr.mono (by decide)) (by rfl) (pa_cons (pv 0) (pa_cons (pv 1) pa_nil))))
      (pss_cons (ps_set (i := 5) sc_law_rows.nd rfl (.inl rfl) (pe_callB (maxK (K := K) rfl rfl) (by rfl) T.max b_max (pa_cons pe_int (pa_cons (pe_callB (lenK (K := K) rfl) (by rfl) T.len b_len (pa_cons (pv 1) pa_nil)) pa_nil))))
      (pss_cons (ps_set (i := 6) sc_law_rows.nd rfl (.inr rfl) (pe_op op_mulA (pe_lst (pa_cons pe_int pa_nil)) (pe_callB (lenK (K := K) rfl) (by rfl) T.len b_len (pa_cons (pv 1) pa_nil))))
      (pss_cons (ps_for PassesOwn.never rfl (pi_zip (by rfl) T.zip (pa_cons (pv 1) (pa_cons (pe_callC c__law_digits (hr.mono (by decide)) (by rfl) (pa_cons (pv 2) (pa_cons pe_int (pa_cons (pe_callB (lenK (K := K) rfl) (by rfl) T.len b_len (pa_cons (pv 1) pa_nil)) pa_nil)))) pa_nil))) (pg_tupK (K := K) (n := 2) rfl rfl (pgs_cons (pg_name (i := 7) sc_law_rows.nd rfl (.inr rfl)) (pgs_cons (pg_name (i := 8) sc_law_rows.nd rfl (.inl rfl)) pgs_nil)))
        (pss_cons (ps_set (i := 9) sc_law_rows.nd rfl (.inl rfl) (pe_callB (maxK (K := K) rfl rfl) (by rfl) T.max b_max (pa_cons (pe_op op_addA (pe_lst (pa_cons pe_int pa_nil)) (pe_lc (own := [("_law_a", 11), ("_law_b", 12)]) rfl sc_law_rows.nd (pi_any (pv 0)) (blkOk_by (own := [("_law_a", 11), ("_law_b", 12)]) (N := nm_law_rows) (sc := defScope s_law_rows) (by decide +kernel)) (fun _ _ _ _ _ => (pg_tupK (K := K) (n := 2) rfl rfl (pgs_cons (pg_name (i := 11) sc_law_rows.nd rfl (.inl rfl)) (pgs_cons (pg_name (i := 12) sc_law_rows.nd rfl (.inl rfl)) pgs_nil)))) (fun _ _ _ _ _ => (pts_one (pt_cmpR (eqK (K := K) rfl hr.units) (pv 12) (pv 7) (nomark _)))) (fun _ _ _ _ _ => (pe_op op_addA pe_int (pe_ix (ixK (K := K) rfl) (pv 6) (pv 11) (fun _ _ => rfl)))))) pa_nil)))
        (pss_cons (ps_set (i := 10) sc_law_rows.nd rfl (.inl rfl) (pe_op op_modI (pv 8) (pe_op op_subI (pe_op op_subI (pv 5) (pv 9)) (pe_ix (ixK (K := K) rfl) (pv 4) (pv 7) (fun _ _ => rfl)))))
        (pss_cons (ps_if (pt_val (pv 3))
          (pss_one (ps_set (i := 10) sc_law_rows.nd rfl (.inl rfl) (pe_callB (minK (K := K) rfl rfl) (by rfl) T.min b_min (pa_cons (pv 10) (pa_cons (pe_op op_divI (pe_op op_modI (pe_op op_divI (pv 8) pe_int) pe_int) pe_int) pa_nil)))))
          pss_nil)
        (pss_one (ps_asg (pe_op op_addA (pv 9) (pv 10)) (pg_sub (pv 6) (pv 7) set_list)))))))
      (pss_one (ps_ret (pv 6))))))), ?_⟩
  try dsimp only [L2.cxOf, L2.Cx.nox, L2.Cx.wish]
  refine blk_set (d := LI (heights go order)) (EvN.e (evn_call (RN := R_heights) (by walk_at "ev") ⟨n, go, order, rfl, ho, hn, he, hlen, rfl⟩)) ?_
  refine blk_set (d := .int 12) (Ev.to (ev_maxI (a := 12) (b := (order.length : Int)) (by walk_at "ev") (by walk_at "ev")) (by rw [e12])) ?_
  refine blk_new (ds := (List.replicate order.length (0 : Int)).map .int) (EvN.to (ev_rep (x := .int 0) (a := (order.length : Int)) (EvN.e (ev_lst (ea_cons ev_int ea_nil))) (by walk_at "ev") (by omega) (by omega)) (by rw [List.map_replicate, Int.toNat_natCast])) ?_
  have er : rowsOf go order c cl = (order.zip (digits c 144 (order.length : Int))).foldl (rwStep go (heights go order) 12 cl) (List.replicate order.length 0) := by
    unfold rowsOf
    rw [e12]
  rw [er]
  refine blk_seq (sd_fold (rwStep go (heights go order) 12 cl) (List.replicate order.length 0) (fun s => ol 6 (s.map .int)) (fun _ => [some (LP go), some (LI order), some (.int c), some (.bl cl), some (LI (heights go order)), some (.int 12), none, none, none, none, none, none, none])
    (it_zipL (us := order) (vs := digits c 144 (order.length : Int)) (ev_var rfl) (EvN.e (evn_call (ds := [.int c, .int 144, .int (order.length : Int)]) (by walk_at "ev") ⟨_, _, _, rfl, by decide, by decide, by omega, by omega, rfl⟩))) rfl (by walk_at "le") ?_) (blk_retOD)
  intro i x hx s hs
  have hi : i < order.length := by
    have q := (List.getElem?_eq_some_iff.mp hx).1
    rw [List.length_zip] at q
    omega
  have hi2 : i < (digits c 144 (order.length : Int)).length := by omega
  have I := rw_fold (close := cl) ho hf hn ht1 ht2 (digits c 144 (order.length : Int)) (fun d hd => (digits_mem (by decide) d hd).1) hdl i (by omega)
  rw [← hol, ← hs] at I
  have ez : (order.zip (digits c 144 (order.length : Int)))[i]? = some (order[i], (digits c 144 (order.length : Int))[i]) := by
    rw [List.zip_eq_zipWith, List.getElem?_zipWith, List.getElem?_eq_getElem hi, List.getElem?_eq_getElem hi2]
  have ex : x = (order[i], (digits c 144 (order.length : Int))[i]) := Option.some.inj (hx.symm.trans ez)
  have h0 : 0 ≤ x.2 := by
    rw [ex]
    exact (digits_mem (by decide) _ (List.getElem_mem hi2)).1
  have e : order = order.take i ++ x.1 :: order.drop (i + 1) := by
    rw [ex]
    show order = order.take i ++ order[i] :: order.drop (i + 1)
    rw [← List.drop_eq_getElem_cons hi, List.take_append_drop]
  obtain ⟨l1, l2⟩ := rw_mod ho hf e hn ht1 ht2 (by rw [← hol]; exact I)
  have hxm := (ho.mem x.1).mp (by rw [e]; exact List.mem_append_right _ List.mem_cons_self)
  have hsl := I.len
  have hhl : (heights go order).length = n := by rw [heights_len, hol]
  have hmod : 0 < 12 - least go s x.1 - at_ (heights go order) x.1 := by omega
  refine ⟨_, _, tg_pair (tg_name (nin rfl)) (tg_name (nin rfl)), ?_⟩
  refine sds_set (d := .int (least go s x.1)) (ev_maxL (ns := 0 :: (go.filter fun p => decide (p.2 = x.1)).map fun p => 1 + at_ s p.1) (Ev.b (EvN.e (EvN.to (ev_cat (xs := [.int 0]) (ys := (go.filter fun p => decide (p.2 = x.1)).map fun p => .int (1 + at_ s p.1)) (EvN.e (ev_lst (ea_cons ev_int ea_nil))) (EvN.e ?_) ?_) ?_))) (List.cons_ne_nil _ _)) ?_
  · refine evn_lc (xs := go) (f := PR) (fun p => decide (p.2 = x.1)) (fun p => .int (1 + at_ s p.1)) (it_L (us := go) (ev_var rfl)) (fun j hj => nin (by
      rcases List.mem_cons.mp hj with rfl | hj
      · rfl
      · rw [List.mem_singleton.mp hj]; rfl)) (by omega) fun p hp => ?_
    obtain ⟨e1, e2, e3, e4⟩ := he p hp
    refine ⟨_, _, tg_pair (tg_name (nin rfl)) (tg_name (nin rfl)), fun j hj => hj, ?_, fun _ => ?_⟩
    · exact et_test (Ev.b (ev_eq (u := p.2) (v := x.1) enc_int (by walk_at "ev") (by walk_at "ev") lay_int lay_int))
    · exact ev_add (Ev.b ev_int) (evb_ix (f := Dt.int) (us := s) evb_own (by walk_at "ev") e1 (at_get e1 (by omega)))
  · rw [List.length_map]
    have := List.length_filter_le (fun p : Int × Int => decide (p.2 = x.1)) go
    show 1 + _ ≤ 1000
    omega
  · show _ = List.map Dt.int (0 :: _)
    rw [List.map_cons, List.map_map]
    rfl
  refine sds_set (d := .int (x.2 % (12 - least go s x.1 - at_ (heights go order) x.1))) (ev_mod (by walk_at "ev") (Ev.b (ev_sub (by walk_at "ev") (Ev.b (ev_ix (f := Dt.int) (us := heights go order) (ev_var rfl) (by walk_at "ev") hxm.1 (at_get hxm.1 (by omega)))))) hmod) ?_
  refine sd_seq (sd_if (o1 := ol 6 (s.map .int)) (en1 := [some (LP go), some (LI order), some (.int c), some (.bl cl), some (LI (heights go order)), some (.int 12), none, some (.int x.1), none, some (.int (least go s x.1)), some (.int (more go (heights go order) 12 cl s x)), none, none]) (et_B (b := cl) (Ev.b (ev_var rfl))) (fun hc => ?_) fun hc => ?_) ?_
  · refine sd1_set (.int (more go (heights go order) 12 cl s x)) (ev_minI (a := x.2 % (12 - least go s x.1 - at_ (heights go order) x.1)) (b := x.2 / 12 % 3 / 2) (by walk_at "ev") (by walk_at "e" <;> first | exact div_small (by decide) (by decide) | decide)) ?_ (by walk_at "le")
    unfold more
    rw [if_pos hc]
  · have em : more go (heights go order) 12 cl s x = x.2 % (12 - least go s x.1 - at_ (heights go order) x.1) := by
      unfold more
      rw [if_neg (by rw [hc]; exact Bool.false_ne_true)]
    rw [em]
    exact Sd.weak sd_next (by walk_at "le")
  exact sd1_setI (v := least go s x.1 + more go (heights go order) 12 cl s x) (a := x.1) (by walk_at "ev") (by walk_at "ev") hxm.1 (by omega) rfl (by walk_at "le")

/-! ### what is dealt: the turned arrows, the rows -/
def dlOrder (many : Int) (ns : List Int) (a : Int) : List Int := orderOf (cellAt ns a) many
def dlTurned (ps : List (Int × Int)) (many : Int) (ns : List Int) (a : Int) : List Int := turnedOf ps (dlOrder many ns a)
def dlRows (ps : List (Int × Int)) (many : Int) (ns : List Int) (a : Int) : List Int := rowsOf (goingOf ps (dlTurned ps many ns a)) (dlOrder many ns a) (cellAt ns (a + 1)) (decide (0 < picked (cellAt ns (a + 2)) 3))
theorem turned_mem {ps : List (Int × Int)} {order : List Int} {k : Nat} {p : Int × Int} (h : ps[k]? = some p) : (k : Int) ∈ turnedOf ps order ↔ order.idxOf p.2 < order.idxOf p.1 := by
  unfold turnedOf
  rw [List.mem_map]
  constructor
  · rintro ⟨x, hx, e⟩
    obtain ⟨h1, h2⟩ := List.mem_filter.mp hx
    obtain ⟨i, hi⟩ := List.getElem?_of_mem h1
    obtain ⟨e1, e2⟩ := enumL_take ps i x hi
    have ek : i = k := by omega
    subst ek
    have e3 : x.2 = p := Option.some.inj (e2.symm.trans h)
    have q := of_decide_eq_true h2
    rw [e3] at q
    omega
  · intro q
    have hk : k < ps.length := (List.getElem?_eq_some_iff.mp h).1
    obtain ⟨x, hx⟩ : ∃ x, (enumL ps)[k]? = some x := ⟨_, List.getElem?_eq_getElem (by rw [enumL_length]; exact hk)⟩
    obtain ⟨e1, e2⟩ := enumL_take ps k x hx
    have e3 : x.2 = p := Option.some.inj (e2.symm.trans h)
    refine ⟨x, List.mem_filter.mpr ⟨List.mem_of_getElem? hx, decide_eq_true ?_⟩, by rw [e1]⟩
    rw [e3]
    omega
theorem idx_inj {order : List Int} {x y : Int} (hx : x ∈ order) (e : order.idxOf x = order.idxOf y) : x = y := by
  have hl := List.idxOf_lt_length_of_mem hx
  have h1 : order[order.idxOf x] = x := List.getElem_idxOf hl
  have hl2 : order.idxOf y < order.length := by omega
  have h2 : order[order.idxOf y] = y := List.getElem_idxOf hl2
  rw [← h1]
  simp only [e]
  exact h2
theorem going_mem {ps : List (Int × Int)} {turned : List Int} {q : Int × Int} (h : q ∈ goingOf ps turned) : ∃ (k : Nat) (p : Int × Int), ps[k]? = some p ∧ q = goWay turned (k, p) := by
  obtain ⟨x, hx, rfl⟩ := List.mem_map.mp h
  obtain ⟨i, hi⟩ := List.getElem?_of_mem hx
  obtain ⟨e1, e2⟩ := enumL_take ps i x hi
  refine ⟨i, x.2, e2, ?_⟩
  rw [← e1]
theorem going_fwd {n : Nat} {ps : List (Int × Int)} {order : List Int} (ho : IsOrder n order) (hp : ∀ p ∈ ps, ArIn n p) : Fwd order (goingOf ps (turnedOf ps order)) := by
  intro q hq
  obtain ⟨k, p, hk, rfl⟩ := going_mem hq
  obtain ⟨a1, a2, a3, a4, a5⟩ := hp p (List.mem_of_getElem? hk)
  have m1 : p.1 ∈ order := (ho.mem _).mpr ⟨a1, a2⟩
  have m2 : p.2 ∈ order := (ho.mem _).mpr ⟨a3, a4⟩
  unfold goWay
  split
  · rename_i h
    exact ⟨m2, m1, (turned_mem hk).mp h⟩
  · rename_i h
    have h' : ¬ order.idxOf p.2 < order.idxOf p.1 := fun z => h ((turned_mem hk).mpr z)
    refine ⟨m1, m2, ?_⟩
    have : order.idxOf p.1 ≠ order.idxOf p.2 := fun z => a5 (idx_inj m1 z)
    show order.idxOf p.1 < order.idxOf p.2
    omega
theorem going_ends {n : Nat} {ps : List (Int × Int)} {turned : List Int} (hp : ∀ p ∈ ps, ArIn n p) : EndsIn n (goingOf ps turned) := by
  intro q hq
  obtain ⟨k, p, hk, rfl⟩ := going_mem hq
  obtain ⟨a1, a2, a3, a4, a5⟩ := hp p (List.mem_of_getElem? hk)
  unfold goWay
  split
  · exact ⟨a3, a4, a1, a2⟩
  · exact ⟨a1, a2, a3, a4⟩
theorem going_len {ps : List (Int × Int)} {turned : List Int} : (goingOf ps turned).length = ps.length := by
  unfold goingOf
  rw [List.length_map, enumL_length]
def R_dealt (K : PySem.W.Frag) (ds : List Dt) (d : Dt) : Prop := ∃ (ps : List (Int × Int)) (many : Int) (ns : List Int) (a : Int), ds = [LP ps, .int many, .scr K ns, .int a] ∧ 0 ≤ many ∧ many ≤ 12 ∧ (∀ p ∈ ps, ArIn many p) ∧ ps.length ≤ 24 ∧ 0 ≤ a ∧
  d = T2 LI LI (dlTurned ps many ns a, dlRows ps many ns a)
theorem ok_law_dealt {f : Addr} {fd : FuncData} (F : Fun K "_law_dealt" "_law_dealt" s_law_dealt f fd) (T : Gb K mg N S) (c__law_cell_at : Cal P w K mg base "_law_cell_at" ["_law_script", "_law_k"] 1 (spD (R_cell_at K)))
    (c__law_picked : Cal P w K mg base "_law_picked" ["_law_cell", "_law_most"] 2 (spD R_picked)) (c__law_order : Cal P w K mg base "_law_order" ["_law_cell", "_law_many"] 3 (spD R_order))
    (c__law_turned : Cal P w K mg base "_law_turned" ["_law_arrows_here", "_law_order_here"] 1 (spN R_turned)) (c__law_going : Cal P w K mg base "_law_going" ["_law_arrows_here", "_law_turned_here"] 1 (spN R_going))
    (c__law_rows : Cal P w K mg base "_law_rows" ["_law_going_here", "_law_order_here", "_law_cell", "_law_close"] 3 (spD R_rows)) : FnOk P w K mg base CX0 4 f fd ["_law_arrows_here", "_law_many", "_law_script", "_law_at"] (spD (R_dealt K)) := by
  refine fn_dat F sc_law_dealt (by rintro _ _ ⟨_, _, _, _, rfl, _⟩; rfl) fun cdv A outer s H E hr ds d h => ?_
  obtain ⟨ps, many, ns, a, rfl, h0, h1, hp, hlen, ha, rfl⟩ := h
  have ho : IsOrder many.toNat (dlOrder many ns a) := orderOf_ok h0
  have hp' : ∀ p ∈ ps, ArIn (many.toNat : Nat) p := by rw [Int.toNat_of_nonneg h0]; exact hp
  refine ⟨_, (pss_cons (ps_set (i := 4) sc_law_dealt.nd rfl (.inl rfl) (pe_callC c__law_order (hr.mono (by decide)) (by rfl) (pa_cons (pe_callC c__law_cell_at (hr.mono (by decide)) (by rfl) (pa_cons (pv 2) (pa_cons (pv 3) pa_nil))) (pa_cons (pv 1) pa_nil))))
      (pss_cons (ps_set (i := 5) sc_law_dealt.nd rfl (.inl rfl) (pe_callC c__law_turned (hr.mono (by decide)) (by rfl) (pa_cons (pv 0) (pa_cons (pv 4) pa_nil))))
      (pss_cons (ps_set (i := 6) sc_law_dealt.nd rfl (.inl rfl) (pe_cmpR op_gtI (pe_callC c__law_picked (hr.mono (by decide)) (by rfl) (pa_cons (pe_callC c__law_cell_at (hr.mono (by decide)) (by rfl) (pa_cons (pv 2) (pa_cons (pe_op op_addA (pv 3) pe_int) pa_nil))) (pa_cons pe_int pa_nil))) pe_int (nomark _)))
      (pss_cons (ps_set (i := 7) sc_law_dealt.nd rfl (.inl rfl) (pe_callC c__law_rows (hr.mono (by decide)) (by rfl) (pa_cons (pe_callC c__law_going (hr.mono (by decide)) (by rfl) (pa_cons (pv 0) (pa_cons (pv 5) pa_nil))) (pa_cons (pv 4) (pa_cons (pe_callC c__law_cell_at (hr.mono (by decide)) (by rfl) (pa_cons (pv 2) (pa_cons (pe_op op_addA (pv 3) pe_int) pa_nil))) (pa_cons (pv 6) pa_nil))))))
      (pss_one (ps_ret (pe_tup (pa_cons (pv 5) (pa_cons (pv 7) pa_nil))))))))), ?_⟩
  try dsimp only [L2.cxOf, L2.Cx.nox, L2.Cx.wish]
  refine blk_set (d := LI (dlOrder many ns a)) (ev_call (R := R_order) (ea_cons (ev_call (R := R_cell_at K) (by walk_at "ev") ⟨ns, a, rfl, ha, rfl⟩) (ea_cons (ev_var rfl) ea_nil)) ⟨_, _, rfl, h0, h1, rfl⟩) ?_
  refine blk_set (d := LI (dlTurned ps many ns a)) (EvN.e (evn_call (RN := R_turned) (by walk_at "ev") ⟨ps, _, rfl, fun p hpm => ?_, hlen, rfl⟩)) ?_
  · obtain ⟨a1, a2, a3, a4, _⟩ := hp' p hpm
    exact ⟨(ho.mem _).mpr ⟨a1, a2⟩, (ho.mem _).mpr ⟨a3, a4⟩⟩
  refine blk_set (d := .bl (decide (0 < picked (cellAt ns (a + 2)) 3))) (ev_gt (Ev.b (ev_call (R := R_picked) (ea_cons (ev_call (R := R_cell_at K) (by walk_at "ev") ⟨ns, a + 2, rfl, by omega, rfl⟩) (ea_cons ev_int ea_nil)) ⟨_, _, rfl, by decide, rfl⟩)) (Ev.b ev_int)) ?_
  refine blk_set (d := LI (dlRows ps many ns a)) (ev_call (R := R_rows) (ea_cons (EvN.e (evn_call (RN := R_going) (by walk_at "ev") ⟨ps, _, rfl, hlen, rfl⟩)) (ea_cons (ev_var rfl) (ea_cons (ev_call (R := R_cell_at K) (by walk_at "ev") ⟨ns, a + 1, rfl, by omega, rfl⟩) (ea_cons (ev_var rfl) ea_nil))))
    ⟨many.toNat, _, _, _, _, rfl, ho, by omega, going_ends hp', going_fwd ho hp', by rw [going_len]; exact hlen, rfl⟩) ?_
  exact blk_ret (ev_pair (f := LI) (g' := LI) (ev_var rfl) (ev_var rfl))

end
end Dl

namespace Dl
open PySem L2
local macro_rules | `(tactic| walk_at "le") => `(tactic| repeat (first | exact LeE.nil | refine LeE.keep ?_ | refine LeE.drop ?_))
local macro_rules | `(tactic| walk_at "e") => `(tactic| first
  | (with_reducible apply Ev.b); walk_at "e"
  | (with_reducible apply ev_var); exact rfl
  | with_reducible apply ev_int
  | with_reducible apply ev_str
  | with_reducible apply ev_bl
  | with_reducible apply ev_non
  | with_reducible apply evb_own
  | ((with_reducible apply ev_add) <;> walk_at "e")
  | ((with_reducible apply ev_sub) <;> walk_at "e")
  | ((with_reducible apply ev_mod) <;> first | walk_at "e" | skip)
  | ((with_reducible apply ev_div) <;> first | walk_at "e" | skip)
  | ((with_reducible apply ev_mul) <;> first | walk_at "e" | skip)
  | ((with_reducible apply ev_pow) <;> first | walk_at "e" | skip)
  | ((with_reducible apply ev_lt) <;> walk_at "e")
  | ((with_reducible apply ev_le) <;> walk_at "e")
  | ((with_reducible apply ev_gt) <;> walk_at "e")
  | ((with_reducible apply ev_ge) <;> walk_at "e")
  | ((with_reducible apply ev_len) <;> walk_at "e")
  | ((with_reducible apply ev_lenR) <;> walk_at "e")
  | with_reducible apply ea_nil
  | with_reducible apply eb_nil
  | ((with_reducible apply ea_cons) <;> walk_at "e")
  | ((with_reducible apply eb_cons) <;> walk_at "e")
  | ((with_reducible apply et_test) <;> walk_at "e")
  | ((with_reducible apply et_B) <;> walk_at "e"))
local macro_rules | `(tactic| walk_at "ev") => `(tactic| (walk_at "e" <;> first | done | decide | omega | assumption | exact cmul_l (by decide) (by decide) | exact cmul_r (by decide) (by decide) | exact cpow_mk (by decide) (by decide) (by decide) | exact cdiv_mk (by decide) (by decide)))
section
variable {P : Program} {w : World} {K : PySem.W.Frag} {mg : Str → Option Value} {base : Heap} {N S : Addr}
/-! ### ways -/
def gap (rows : List Int) (p : Int × Int) : Nat := (at_ rows p.2 - at_ rows p.1 - 1).toNat
def wayOf (rows : List Int) (nodes : Int) (p : Int × Int) : List Int := [p.1] ++ ((List.range (gap rows p)).map fun i : Nat => nodes + (i : Int)) ++ [p.2]
def wyStep (rows : List Int) (s : List (List Int) × Int) (p : Int × Int) : List (List Int) × Int := (s.1 ++ [wayOf rows s.2 p], s.2 + (gap rows p : Int))
def waysOf (rows : List Int) (go : List (Int × Int)) : List (List Int) := (go.foldl (wyStep rows) ([], (rows.length : Int))).1
/-- rows that are down -/
structure Dn (n : Nat) (rows : List Int) (go : List (Int × Int)) : Prop where
  len : rows.length = n
  val : ∀ x : Int, 0 ≤ x → x < n → 0 ≤ at_ rows x ∧ at_ rows x ≤ 11
  dn : ∀ p ∈ go, at_ rows p.1 < at_ rows p.2
  ends : EndsIn n go
theorem Dn.gap {n : Nat} {rows : List Int} {go : List (Int × Int)} (h : Dn n rows go) {p : Int × Int} (hp : p ∈ go) : Dl.gap rows p ≤ 10 ∧ (Dl.gap rows p : Int) = at_ rows p.2 - at_ rows p.1 - 1 := by
  obtain ⟨a1, a2, a3, a4⟩ := h.ends p hp
  have b1 := h.val p.1 a1 a2
  have b2 := h.val p.2 a3 a4
  have b3 := h.dn p hp
  unfold Dl.gap
  omega
structure WaysOk (n : Nat) (ways : List (List Int)) : Prop where
  len : ways.length ≤ 24
  each : ∀ w ∈ ways, 2 ≤ w.length ∧ w.length ≤ 12 ∧ 0 ≤ w.headD 0 ∧ w.headD 0 < n
theorem wayOf_len (rows : List Int) (nodes : Int) (p : Int × Int) : (wayOf rows nodes p).length = gap rows p + 2 := by
  unfold wayOf
  simp only [List.length_append, List.length_singleton, List.length_map, List.length_range]
  omega
theorem wayOf_head (rows : List Int) (nodes : Int) (p : Int × Int) : (wayOf rows nodes p).headD 0 = p.1 := rfl
theorem wy_fold {n : Nat} {rows : List Int} {go : List (Int × Int)} (h : Dn n rows go) : ∀ (ps : List (Int × Int)), (∀ p ∈ ps, p ∈ go) → ∀ s : List (List Int) × Int, (∀ w ∈ s.1, 2 ≤ w.length ∧ w.length ≤ 12 ∧ 0 ≤ w.headD 0 ∧ w.headD 0 < n) → 0 ≤ s.2 →
    (ps.foldl (wyStep rows) s).1.length = s.1.length + ps.length ∧ s.2 ≤ (ps.foldl (wyStep rows) s).2 ∧ (ps.foldl (wyStep rows) s).2 ≤ s.2 + 10 * ps.length ∧ ∀ w ∈ (ps.foldl (wyStep rows) s).1, 2 ≤ w.length ∧ w.length ≤ 12 ∧ 0 ≤ w.headD 0 ∧ w.headD 0 < n
  | [], _, s, hw, _ => ⟨rfl, Int.le_refl _, by show s.2 ≤ s.2 + 10 * ((0 : Nat) : Int); omega, hw⟩
  | p :: ps, hp, s, hw, h0 => by
    have hpm := hp p List.mem_cons_self
    have hg := (h.gap hpm).1
    obtain ⟨a1, a2, a3, a4⟩ := h.ends p hpm
    obtain ⟨b1, b2, b3, b4⟩ := wy_fold h ps (fun q hq => hp q (List.mem_cons_of_mem _ hq)) (wyStep rows s p) (fun w hwm => by
      rcases List.mem_append.mp hwm with q | q
      · exact hw w q
      · rw [List.mem_singleton.mp q, wayOf_len, wayOf_head]
        exact ⟨by omega, by omega, a1, a2⟩) (by show 0 ≤ s.2 + (gap rows p : Int); omega)
    have e2 : (wyStep rows s p).2 = s.2 + (gap rows p : Int) := rfl
    have e1 : (wyStep rows s p).1.length = s.1.length + 1 := List.length_append
    refine ⟨?_, ?_, ?_, b4⟩
    · rw [List.foldl_cons, b1, e1, List.length_cons]
      omega
    · rw [List.foldl_cons]
      omega
    · rw [List.foldl_cons, List.length_cons]
      omega
theorem waysOf_ok {n : Nat} {rows : List Int} {go : List (Int × Int)} (h : Dn n rows go) (hl : go.length ≤ 24) : WaysOk n (waysOf rows go) := by
  obtain ⟨b1, b2, b3, b4⟩ := wy_fold h go (fun p hp => hp) ([], (rows.length : Int)) (fun w hw => (by cases hw)) (by show (0 : Int) ≤ (rows.length : Int); omega)
  refine ⟨?_, b4⟩
  unfold waysOf
  rw [b1]
  show 0 + go.length ≤ 24
  omega
def R_ways (ds es : List Dt) : Prop := ∃ (n : Nat) (ps : List (Int × Int)) (turned rows : List Int), ds = [LP ps, LI turned, LI rows] ∧ Dn n rows (goingOf ps turned) ∧ n ≤ 12 ∧ ps.length ≤ 24 ∧ es = (waysOf rows (goingOf ps turned)).map LI
theorem ok_law_ways {f : Addr} {fd : FuncData} (F : Fun K "_law_ways" "_law_ways" s_law_ways f fd) (T : Gb K mg N S) (c__law_going : Cal P w K mg base "_law_going" ["_law_arrows_here", "_law_turned_here"] 1 (spN R_going)) :
    FnOk P w K mg base CX0 2 f fd ["_law_arrows_here", "_law_turned_here", "_law_rows_here"] (spN R_ways) := by
  refine fn_new F sc_law_ways (by rintro _ _ ⟨_, _, _, _, rfl, _⟩; rfl) fun cdv A outer s H E hr ds d h => ?_
  obtain ⟨n, ps, turned, rows, rfl, hd, hn, hlen, rfl⟩ := h
  have hrl := hd.len
  refine ⟨_, (pss_cons (ps_set (i := 3) sc_law_ways.nd rfl (.inl rfl) (pe_lst pa_nil))
      (pss_cons (ps_set (i := 4) sc_law_ways.nd rfl (.inl rfl) (pe_callB (lenK (K := K) rfl) (by rfl) T.len b_len (pa_cons (pv 2) pa_nil)))
      (pss_cons (ps_for PassesOwn.never rfl (pi_any (pe_callC c__law_going (hr.mono (by decide)) (by rfl) (pa_cons (pv 0) (pa_cons (pv 1) pa_nil)))) (pg_tupK (K := K) (n := 2) rfl rfl (pgs_cons (pg_name (i := 5) sc_law_ways.nd rfl (.inl rfl)) (pgs_cons (pg_name (i := 6) sc_law_ways.nd rfl (.inl rfl)) pgs_nil)))
        (pss_cons (ps_set (i := 7) sc_law_ways.nd rfl (.inl rfl) (pe_op op_subI (pe_op op_subI (pe_ix (ixK (K := K) rfl) (pv 2) (pv 6) (fun _ _ => rfl)) (pe_ix (ixK (K := K) rfl) (pv 2) (pv 5) (fun _ _ => rfl))) pe_int))
        (pss_cons (ps_expr (pe_bmK (K := K) rfl PySem.F.plainAttrs_list PySem.F.slot_list_append PySem.F.type_list_append mt_append (pv 3) (pa_cons (pe_op op_addA (pe_op op_addA (pe_lst (pa_cons (pv 5) pa_nil)) (pe_listRg rfl (by rfl) T.list (prg_2 (by rfl) T.range (pv 4) (pe_op op_addA (pv 4) (pv 7))))) (pe_lst (pa_cons (pv 6) pa_nil))) pa_nil)))
        (pss_one (ps_set (i := 4) sc_law_ways.nd rfl (.inl rfl) (pe_op op_addA (pv 4) (pv 7)))))))
      (pss_one (ps_ret (pv 3)))))), ?_⟩
  try dsimp only [L2.cxOf, L2.Cx.nox, L2.Cx.wish]
  refine blk_new (ev_lst ea_nil) ?_
  refine blk_set (by walk_at "ev") ?_
  refine blk_seq (sd_fold (wyStep rows) ([], (rows.length : Int)) (fun s => ol 3 (s.1.map LI)) (fun s => [some (LP ps), some (LI turned), some (LI rows), none, some (.int s.2), none, none, none])
    (it_L (us := goingOf ps turned) (EvN.e (evn_call (RN := R_going) (by walk_at "ev") ⟨ps, turned, rfl, hlen, rfl⟩))) rfl (by walk_at "le") ?_) blk_retO
  intro i x hx s hs
  have hxm := List.mem_of_getElem? hx
  obtain ⟨g1, g2⟩ := hd.gap hxm
  obtain ⟨a1, a2, a3, a4⟩ := hd.ends x hxm
  obtain ⟨b1, b2, b3, b4⟩ := wy_fold hd ((goingOf ps turned).take i) (fun p hp => List.mem_of_mem_take hp) ([], (rows.length : Int)) (fun w hw => (by cases hw)) (by show (0 : Int) ≤ (rows.length : Int); omega)
  rw [← hs] at b1 b2 b3 b4
  have hil : i < (goingOf ps turned).length := (List.getElem?_eq_some_iff.mp hx).1
  rw [going_len] at hil
  rw [List.length_take, going_len] at b1 b3
  have b1' : s.1.length = 0 + min i ps.length := b1
  have b2' : (rows.length : Int) ≤ s.2 := b2
  have b3' : s.2 ≤ (rows.length : Int) + 10 * (min i ps.length : Nat) := b3
  refine ⟨_, _, tg_pair (tg_name (nin rfl)) (tg_name (nin rfl)), ?_⟩
  refine sds_setE (.int (gap rows x : Int)) (ev_sub (Ev.b (ev_sub (Ev.b (ev_ix (f := Dt.int) (us := rows) (ev_var rfl) (by walk_at "ev") a3 (at_get a3 (by omega)))) (Ev.b (ev_ix (f := Dt.int) (us := rows) (ev_var rfl) (by walk_at "ev") a1 (at_get a1 (by omega)))))) (Ev.b ev_int)) (by rw [g2]) ?_
  refine sd_seq (sd_app (d := LI (wayOf rows s.2 x)) (Ev.to (EvN.e (ev_cat (EvN.e (ev_cat (EvN.e (ev_lst (ea_cons (ev_var rfl) ea_nil))) (EvN.e (evn_rg2 (a := s.2) (b := s.2 + (gap rows x : Int)) (by walk_at "ev") (by walk_at "ev") (by omega) (by omega) (by omega) (by omega))) ?_)) (EvN.e (ev_lst (ea_cons (ev_var rfl) ea_nil))) ?_)) ?_) (by rw [List.length_map]; omega)) ?_
  · unfold rangeD
    rw [List.length_map, List.length_range]
    show 1 + _ ≤ 1000
    omega
  · unfold rangeD
    rw [List.length_append, List.length_map, List.length_range]
    show 1 + _ + 1 ≤ 1000
    omega
  · unfold wayOf rangeD
    have e : (s.2 + (gap rows x : Int) - s.2).toNat = gap rows x := by omega
    rw [e]
    show Dt.lst _ = Dt.lst (List.map Dt.int _)
    rw [List.map_append, List.map_append, List.map_map]
    rfl
  refine (sd1_set (.int (wyStep rows s x).2) (by walk_at "ev") (by rfl) (by walk_at "le")).to ?_
  show ol 3 _ = ol 3 (List.map LI (s.1 ++ [wayOf rows s.2 x]))
  rw [List.map_append]
  rfl

/-! ### the nodes' rows -/
def nrStep (rows : List Int) (s : List Int) (w : List Int) : List Int := s ++ (List.range (w.length - 2)).map fun i : Nat => at_ rows (w.headD 0) + (1 + (i : Int))
def nodeRowsOf (rows : List Int) (ways : List (List Int)) : List Int := ways.foldl (nrStep rows) rows
theorem nr_len {rows : List Int} {n : Nat} : ∀ (ways : List (List Int)) (s : List Int), (∀ w ∈ ways, 2 ≤ w.length ∧ w.length ≤ 12 ∧ 0 ≤ w.headD 0 ∧ w.headD 0 < (n : Int)) → (ways.foldl (nrStep rows) s).length ≤ s.length + 10 * ways.length
  | [], _, _ => Nat.le_refl _
  | w :: ways, s, h => by
    have q := nr_len (rows := rows) (n := n) ways (nrStep rows s w) fun v hv => h v (List.mem_cons_of_mem _ hv)
    have hw := (h w List.mem_cons_self).2.1
    have e : (nrStep rows s w).length = s.length + (w.length - 2) := by
      unfold nrStep
      rw [List.length_append, List.length_map, List.length_range]
    rw [List.foldl_cons, List.length_cons]
    omega
theorem head_get {w : List Int} (h : 2 ≤ w.length) : w[(0 : Int).toNat]? = some (w.headD 0) := by
  cases w with
  | nil => simp at h
  | cons x r => rfl
def R_node_rows (ds es : List Dt) : Prop := ∃ (rows : List Int) (ways : List (List Int)), ds = [LI rows, L LI ways] ∧ WaysOk rows.length ways ∧ rows.length ≤ 12 ∧ es = (nodeRowsOf rows ways).map .int
theorem ok_law_node_rows {f : Addr} {fd : FuncData} (F : Fun K "_law_node_rows" "_law_node_rows" s_law_node_rows f fd) (T : Gb K mg N S) : FnOk P w K mg base CX0 1 f fd ["_law_rows_here", "_law_ways_here"] (spN R_node_rows) := by
  refine fn_new F sc_law_node_rows (by rintro _ _ ⟨_, _, rfl, _⟩; rfl) fun cdv A outer s H E hr ds d h => ?_
  obtain ⟨rows, ways, rfl, hw, hn, rfl⟩ := h
  refine ⟨_, (pss_cons (ps_set (i := 2) sc_law_node_rows.nd rfl (.inl rfl) (pe_callTy (listK (K := K) rfl) (by rfl) T.list b_list (pa_cons (pv 0) pa_nil)))
      (pss_cons (ps_for PassesOwn.never rfl (pi_any (pv 1)) (pg_name (i := 3) sc_law_node_rows.nd rfl (.inr rfl))
        (pss_one (ps_expr (pe_bmK (K := K) rfl PySem.F.plainAttrs_list PySem.F.slot_list_extend PySem.F.type_list_extend mt_extend (pv 2) (pa_cons (pe_lc (own := [("_law_k", 4)]) rfl sc_law_node_rows.nd (pi_range2 (by rfl) T.range (pa_cons pe_int (pa_cons (pe_op op_subI (pe_callB (lenK (K := K) rfl) (by rfl) T.len b_len (pa_cons (pv 3) pa_nil)) pe_int) pa_nil))) (blkOk_by (own := [("_law_k", 4)]) (N := nm_law_node_rows) (sc := defScope s_law_node_rows) (by decide +kernel)) (fun _ _ _ _ _ => (pg_name (i := 4) sc_law_node_rows.nd rfl (.inl rfl))) (fun _ _ _ _ _ => pts_nil) (fun _ _ _ _ _ => (pe_op op_addA (pe_ix (ixK (K := K) rfl) (pv 0) (pe_ix (ixK (K := K) rfl) (pv 3) pe_int (fun _ _ => rfl)) (fun _ _ => rfl)) (pv 4)))) pa_nil)))))
      (pss_one (ps_ret (pv 2))))), ?_⟩
  try dsimp only [L2.cxOf, L2.Cx.nox, L2.Cx.wish]
  refine blk_new (ds := rows.map .int) (ev_list (Ev.to (ev_var (d := LI rows) rfl) rfl)) ?_
  refine blk_seq (sd_fold (nrStep rows) rows (fun s => ol 2 (s.map .int)) (fun _ => [some (LI rows), some (L LI ways), none, none, none]) (it_L (us := ways) (ev_var rfl)) rfl (by walk_at "le") ?_) blk_retO
  intro i x hx s hs
  have hxm := List.mem_of_getElem? hx
  obtain ⟨w1, w2, w3, w4⟩ := hw.each x hxm
  have hsl := nr_len (rows := rows) (n := rows.length) (ways.take i) rows fun v hv => hw.each v (List.mem_of_mem_take hv)
  rw [← hs, List.length_take] at hsl
  have hwl := hw.len
  have e3 : (((x.length : Int) - 1) - 1).toNat = x.length - 2 := by omega
  refine ⟨_, _, tg_name (nin rfl), ?_⟩
  refine sd1_ext (es := ((List.range (x.length - 2)).map fun i : Nat => Dt.int (at_ rows (x.headD 0) + (1 + (i : Int))))) (EvN.e (EvN.to (evn_lc1 (xs := List.range (((x.length : Int) - 1) - 1).toNat) (f := fun i : Nat => Dt.int (1 + (i : Nat))) (fun i : Nat => Dt.int (at_ rows (x.headD 0) + (1 + (i : Int)))) (it_rng2 (a := 1) (b := (x.length : Int) - 1) (by walk_at "ev") (by walk_at "ev") (by decide) (by decide) (by omega) (by omega)) (fun j hj => nin (by
      rw [List.mem_singleton.mp hj]
      rfl)) (by rw [List.length_range]; omega) fun k hk => ?_) (by rw [e3]))) ?_ (by walk_at "le") ?_
  · refine ⟨_, _, tg_name (nin rfl), fun j hj => hj, ?_⟩
    exact ev_add (Ev.b (ev_ix (f := Dt.int) (us := rows) (ev_var rfl) (Ev.b (ev_ix (f := Dt.int) (us := x) (ev_var rfl) (Ev.b ev_int) (by decide) (head_get w1))) w3 (at_get w3 w4))) (by walk_at "ev")
  · unfold nrStep
    rw [List.map_append, List.map_map]
    rfl
  · rw [List.length_map, List.length_map, List.length_range]
    omega

/-! ### the nodes of each row -/
def irStep (s : List (List Int)) (x : Nat × Int) : List (List Int) := s.set x.2.toNat (s.getD x.2.toNat [] ++ [(x.1 : Int)])
def inRowsOf (nr rows : List Int) : List (List Int) := (enumL nr).foldl irStep (List.replicate (mx rows + 1).toNat [])
theorem ir_fold : ∀ (xs : List (Nat × Int)) (s : List (List Int)), (∀ x ∈ xs, 0 ≤ x.2 ∧ x.2 < (s.length : Int)) → (xs.foldl irStep s).length = s.length ∧
    ∀ r : Nat, r < s.length → (xs.foldl irStep s).getD r [] = s.getD r [] ++ (xs.filter fun x => decide (x.2 = (r : Int))).map fun x => (x.1 : Int)
  | [], s, _ => ⟨rfl, fun r _ => (List.append_nil _).symm⟩
  | x :: xs, s, h => by
    obtain ⟨h0, h1⟩ := h x List.mem_cons_self
    have el : (irStep s x).length = s.length := List.length_set
    obtain ⟨a, b⟩ := ir_fold xs (irStep s x) fun y hy => by
      rw [el]
      exact h y (List.mem_cons_of_mem _ hy)
    refine ⟨by rw [List.foldl_cons, a, el], fun r hr => ?_⟩
    rw [List.foldl_cons, b r (by rw [el]; exact hr), List.filter_cons]
    unfold irStep
    by_cases e : x.2 = (r : Int)
    · rw [if_pos (decide_eq_true e), List.map_cons]
      have er : x.2.toNat = r := by omega
      rw [er, List.getD_eq_getElem?_getD, List.getElem?_set_self hr]
      show s.getD r [] ++ [(x.1 : Int)] ++ _ = _
      rw [List.append_assoc]
      rfl
    · rw [if_neg (by rw [decide_eq_false e]; exact Bool.false_ne_true)]
      rw [List.getD_eq_getElem?_getD, List.getElem?_set_ne (by omega), ← List.getD_eq_getElem?_getD]
def R_in_rows (ds : List Dt) (d : Dt) : Prop := ∃ (nr rows : List Int), ds = [LI nr, LI rows] ∧ rows ≠ [] ∧ 0 ≤ mx rows ∧ mx rows ≤ 100 ∧ nr.length ≤ 1000 ∧ (∀ v ∈ nr, 0 ≤ v ∧ v ≤ mx rows) ∧ d = L LI (inRowsOf nr rows)
theorem ir_val {nr : List Int} {x : Nat × Int} (h : x ∈ enumL nr) : x.2 ∈ nr := by
  obtain ⟨i, hi⟩ := List.getElem?_of_mem h
  exact List.mem_of_getElem? (enumL_take nr i x hi).2
theorem ok_law_in_rows {f : Addr} {fd : FuncData} (F : Fun K "_law_in_rows" "_law_in_rows" s_law_in_rows f fd) (T : Gb K mg N S) : FnOk P w K mg base CX0 1 f fd ["_law_node_rows_here", "_law_rows_here"] (spD R_in_rows) := by
  refine fn_dat F sc_law_in_rows (by rintro _ _ ⟨_, _, rfl, _⟩; rfl) fun cdv A outer s H E hr ds d h => ?_
  obtain ⟨nr, rows, rfl, hne, h0, h1, hl, hv, rfl⟩ := h
  refine ⟨_, (pss_cons (ps_setLc (i := 2) (own := [("_law_k", 5)]) rfl sc_law_in_rows.nd rfl rfl (sw_true rfl rfl rfl (by decide +kernel)) (pi_range1 (by rfl) T.range (pa_cons (pe_op op_addA (pe_callB (maxK (K := K) rfl rfl) (by rfl) T.max b_max (pa_cons (pv 1) pa_nil)) pe_int) pa_nil)) (blkOk_by (own := [("_law_k", 5)]) (N := nm_law_in_rows) (sc := defScope s_law_in_rows) (by decide +kernel)) (fun _ _ _ _ _ => (pg_name (i := 5) sc_law_in_rows.nd rfl (.inl rfl))) (fun _ _ _ _ _ => pts_nil) (fun _ _ _ _ _ => (pe_lst pa_nil)))
      (pss_cons (ps_for PassesOwn.never rfl (pi_enumA (by rfl) T.enumerate (pa_cons (pv 0) pa_nil)) (pg_tupK (K := K) (n := 2) rfl rfl (pgs_cons (pg_name (i := 3) sc_law_in_rows.nd rfl (.inl rfl)) (pgs_cons (pg_name (i := 4) sc_law_in_rows.nd rfl (.inl rfl)) pgs_nil)))
        (pss_one (ps_expr (pe_bmK (K := K) rfl PySem.F.plainAttrs_list PySem.F.slot_list_append PySem.F.type_list_append mt_append (pe_ix (ixK (K := K) rfl) (pv 2) (pv 4) (fun _ _ => rfl)) (pa_cons (pv 3) pa_nil)))))
      (pss_one (ps_ret (pv 2))))), ?_⟩
  try dsimp only [L2.cxOf, L2.Cx.nox, L2.Cx.wish]
  refine blk_seq (sd_oll (xs := List.range (mx rows + 1).toNat) (f := I0) (it_rng (a := mx rows + 1) (ev_add (Ev.b (ev_maxL (ns := rows) (Ev.b (ev_var rfl)) hne)) (Ev.b ev_int)).b (by omega) (by omega)) (by rw [List.length_range]; omega) (fun x hx => ⟨_, _, tg_name (nin rfl), fun j hj => hj⟩) (Nat.le_of_ble_eq_true rfl)) ?_
  rw [List.length_range]
  refine blk_seq (sd_fold irStep (List.replicate (mx rows + 1).toNat []) (fun s => oll 2 s) (fun _ => [some (LI nr), some (LI rows), none, none, none, none]) (it_enumL (us := nr) (ev_var rfl)) rfl (by walk_at "le") ?_) blk_retOll
  intro i x hx s hs
  have hxv := hv x.2 (ir_val (List.mem_of_getElem? hx))
  obtain ⟨a, b⟩ := ir_fold ((enumL nr).take i) (List.replicate (mx rows + 1).toNat []) fun y hy => by
    have := hv y.2 (ir_val (List.mem_of_mem_take hy))
    rw [List.length_replicate]
    omega
  rw [← hs, List.length_replicate] at a
  rw [List.length_replicate] at b
  have hg := b x.2.toNat (by omega)
  rw [← hs] at hg
  have hnl : (s.getD x.2.toNat []).length < 100000 := by
    rw [hg, List.length_append, List.length_map]
    have q := List.length_filter_le (fun y : Nat × Int => decide (y.2 = (x.2.toNat : Int))) ((enumL nr).take i)
    rw [List.length_take, enumL_length] at q
    have e0 : ((List.replicate (mx rows + 1).toNat ([] : List Int)).getD x.2.toNat []).length = 0 := by
      rw [List.getD_eq_getElem?_getD, List.getElem?_replicate]
      split <;> rfl
    omega
  refine ⟨_, _, tg_pair (tg_name (nin rfl)) (tg_name (nin rfl)), ?_⟩
  refine sd_ollApp (a := x.2) (v := (x.1 : Int)) (ns := s.getD x.2.toNat []) (by walk_at "ev") (by walk_at "ev") hxv.1 ?_ hnl rfl (by walk_at "le")
  rw [List.getD_eq_getElem?_getD, List.getElem?_eq_getElem (by omega)]
  rfl

/-! ### pieces -/
def pcStep (s : List (Int × Int)) (w : List Int) : List (Int × Int) := s ++ w.zip (w.drop 1)
def piecesOf (ways : List (List Int)) : List (Int × Int) := ways.foldl pcStep []
theorem pc_len : ∀ (ways : List (List Int)) (s : List (Int × Int)), (∀ w ∈ ways, w.length ≤ 12) → (ways.foldl pcStep s).length ≤ s.length + 12 * ways.length
  | [], _, _ => Nat.le_refl _
  | w :: ways, s, h => by
    have q := pc_len ways (pcStep s w) fun v hv => h v (List.mem_cons_of_mem _ hv)
    have hw := h w List.mem_cons_self
    have e : (pcStep s w).length ≤ s.length + 12 := by
      unfold pcStep
      rw [List.length_append, List.length_zip]
      omega
    rw [List.foldl_cons, List.length_cons]
    omega
def R_pieces (ds es : List Dt) : Prop := ∃ (ways : List (List Int)), ds = [L LI ways] ∧ ways.length ≤ 24 ∧ (∀ w ∈ ways, w.length ≤ 12) ∧ es = (piecesOf ways).map PR
theorem ok_law_pieces {f : Addr} {fd : FuncData} (F : Fun K "_law_pieces" "_law_pieces" s_law_pieces f fd) (T : Gb K mg N S) : FnOk P w K mg base CX0 1 f fd ["_law_ways_here"] (spN R_pieces) := by
  refine fn_new F sc_law_pieces (by rintro _ _ ⟨_, rfl, _⟩; rfl) fun cdv A outer s H E hr ds d h => ?_
  obtain ⟨ways, rfl, hl, hw, rfl⟩ := h
  refine ⟨_, (pss_cons (ps_set (i := 1) sc_law_pieces.nd rfl (.inl rfl) (pe_lst pa_nil))
      (pss_cons (ps_for PassesOwn.never rfl (pi_any (pv 0)) (pg_name (i := 2) sc_law_pieces.nd rfl (.inl rfl))
        (pss_one (ps_expr (pe_bmK (K := K) rfl PySem.F.plainAttrs_list PySem.F.slot_list_extend PySem.F.type_list_extend mt_extend (pv 1) (pa_cons (pe_lc (own := [("_law_u", 3), ("_law_v", 4)]) rfl sc_law_pieces.nd (pi_zip (by rfl) T.zip (pa_cons (pv 2) (pa_cons (pe_slice (slK (K := K) rfl) (pv 2) (po_some pe_int) po_none) pa_nil))) (blkOk_by (own := [("_law_u", 3), ("_law_v", 4)]) (N := nm_law_pieces) (sc := defScope s_law_pieces) (by decide +kernel)) (fun _ _ _ _ _ => (pg_tupK (K := K) (n := 2) rfl rfl (pgs_cons (pg_name (i := 3) sc_law_pieces.nd rfl (.inl rfl)) (pgs_cons (pg_name (i := 4) sc_law_pieces.nd rfl (.inl rfl)) pgs_nil)))) (fun _ _ _ _ _ => pts_nil) (fun _ _ _ _ _ => (pe_tup (pa_cons (pv 3) (pa_cons (pv 4) pa_nil))))) pa_nil)))))
      (pss_one (ps_ret (pv 1))))), ?_⟩
  try dsimp only [L2.cxOf, L2.Cx.nox, L2.Cx.wish]
  refine blk_new (ev_lst ea_nil) ?_
  refine blk_seq (sd_fold pcStep [] (fun s => ol 1 (s.map PR)) (fun _ => [some (L LI ways), none, none, none, none]) (it_L (us := ways) (ev_var rfl)) rfl (by walk_at "le") ?_) blk_retO
  intro i x hx s hs
  have hxl := hw x (List.mem_of_getElem? hx)
  have hsl := pc_len (ways.take i) [] fun v hv => hw v (List.mem_of_mem_take hv)
  rw [← hs, List.length_take] at hsl
  have hsl' : s.length ≤ 0 + 12 * min i ways.length := hsl
  refine ⟨_, _, tg_name (nin rfl), ?_⟩
  refine sd1_ext (es := (x.zip (x.drop 1)).map PR) (EvN.e (evn_lc1 (xs := x.zip (x.drop 1)) (f := T2 .int .int) PR (it_zipL (us := x) (vs := x.drop 1) (f := Dt.int) (g := Dt.int) (ev_var rfl) (EvN.e (ev_drop (f := Dt.int) (us := x) (a := 1) (ev_var rfl) (Ev.b ev_int) (by decide)))) (fun j hj => nin (by
      rcases List.mem_cons.mp hj with rfl | hj
      · rfl
      · rw [List.mem_singleton.mp hj]; rfl)) (by rw [List.length_zip]; omega) fun p hp => ?_)) ?_ (by walk_at "le") ?_
  · exact ⟨_, _, tg_pair (tg_name (nin rfl)) (tg_name (nin rfl)), fun j hj => hj, ev_pair (f := Dt.int) (g' := Dt.int) (ev_var rfl) (ev_var rfl)⟩
  · unfold pcStep
    rw [List.map_append]
  · rw [List.length_map, List.length_map, List.length_zip]
    omega

/-! ### lists or tuples handed in -/
def R_handed (ds : List Dt) (r : Ret) : Prop := ∃ (row : List Int) (kind : Int), ds = [LI row, .int kind] ∧ r = if kind % 2 = 1 then .dat (.tup (row.map .int)) else .new (row.map .int)
theorem ok_law_handed {f : Addr} {fd : FuncData} (F : Fun K "_law_handed" "_law_handed" s_law_handed f fd) (T : Gb K mg N S) : FnOk P w K mg base CX0 1 f fd ["_law_row", "_law_kind"] (spR R_handed) := by
  refine fn_ret F sc_law_handed (by rintro _ _ ⟨_, _, rfl, _⟩; rfl) fun cdv A outer s H E hr ds d h => ?_
  obtain ⟨row, kind, rfl, rfl⟩ := h
  refine ⟨_, (pss_cons (ps_if (pt_cmpR (eqK (K := K) rfl hr.units) (pe_op op_modI (pv 1) pe_int) pe_int (nomark _))
        (pss_one (ps_ret (pe_callTy (tupK (K := K) rfl) (by rfl) T.tuple b_tuple (pa_cons (pv 0) pa_nil))))
        pss_nil)
      (pss_one (ps_ret (pe_callTy (listK (K := K) rfl) (by rfl) T.list b_list (pa_cons (pv 0) pa_nil))))), ?_⟩
  try dsimp only [L2.cxOf, L2.Cx.nox, L2.Cx.wish]
  refine blk_ifr (et_test (Ev.b (ev_eq (u := kind % 2) (v := (1 : Int)) enc_int (by walk_at "ev") (by walk_at "ev") lay_int lay_int))) (fun hc => ?_) fun hc => ?_
  · rw [if_pos (of_decide_eq_true hc)]
    exact blk_ret (ev_tuple (Ev.to (ev_var (d := LI row) rfl) rfl))
  · rw [if_neg (of_decide_eq_false hc)]
    exact blk_retN (ev_list (Ev.to (ev_var (d := LI row) rfl) rfl))

/-! ### the bends' arrows -/
def baStep (s : List (Option Int)) (x : Nat × List Int) : List (Option Int) := s ++ List.replicate (x.2.length - 2) (some (x.1 : Int))
def bendsOf (rows : List Int) (ways : List (List Int)) : List (Option Int) := (enumL ways).foldl baStep (List.replicate rows.length none)
theorem ba_len : ∀ (xs : List (Nat × List Int)) (s : List (Option Int)), (∀ x ∈ xs, x.2.length ≤ 12) → (xs.foldl baStep s).length ≤ s.length + 12 * xs.length
  | [], _, _ => Nat.le_refl _
  | w :: ways, s, h => by
    have q := ba_len ways (baStep s w) fun v hv => h v (List.mem_cons_of_mem _ hv)
    have hw := h w List.mem_cons_self
    have e : (baStep s w).length ≤ s.length + 12 := by
      unfold baStep
      rw [List.length_append, List.length_replicate]
      omega
    rw [List.foldl_cons, List.length_cons]
    omega
def R_bends (ds es : List Dt) : Prop := ∃ (rows : List Int) (ways : List (List Int)), ds = [LI rows, L LI ways] ∧ WaysOk rows.length ways ∧ rows.length ≤ 12 ∧ es = (bendsOf rows ways).map O
theorem ok_law_bend_arrows {f : Addr} {fd : FuncData} (F : Fun K "_law_bend_arrows" "_law_bend_arrows" s_law_bend_arrows f fd) (T : Gb K mg N S) : FnOk P w K mg base CX0 1 f fd ["_law_rows_here", "_law_ways_here"] (spN R_bends) := by
  refine fn_new F sc_law_bend_arrows (by rintro _ _ ⟨_, _, rfl, _⟩; rfl) fun cdv A outer s H E hr ds d h => ?_
  obtain ⟨rows, ways, rfl, hw, hn, rfl⟩ := h
  refine ⟨_, (pss_cons (ps_set (i := 2) sc_law_bend_arrows.nd rfl (.inl rfl) (pe_op op_mulA (pe_lst (pa_cons pe_non pa_nil)) (pe_callB (lenK (K := K) rfl) (by rfl) T.len b_len (pa_cons (pv 0) pa_nil))))
      (pss_cons (ps_for PassesOwn.never rfl (pi_enumA (by rfl) T.enumerate (pa_cons (pv 1) pa_nil)) (pg_tupK (K := K) (n := 2) rfl rfl (pgs_cons (pg_name (i := 3) sc_law_bend_arrows.nd rfl (.inl rfl)) (pgs_cons (pg_name (i := 4) sc_law_bend_arrows.nd rfl (.inl rfl)) pgs_nil)))
        (pss_one (ps_expr (pe_bmK (K := K) rfl PySem.F.plainAttrs_list PySem.F.slot_list_extend PySem.F.type_list_extend mt_extend (pv 2) (pa_cons (pe_op op_mulA (pe_lst (pa_cons (pv 3) pa_nil)) (pe_op op_subI (pe_callB (lenK (K := K) rfl) (by rfl) T.len b_len (pa_cons (pv 4) pa_nil)) pe_int)) pa_nil)))))
      (pss_one (ps_ret (pv 2))))), ?_⟩
  try dsimp only [L2.cxOf, L2.Cx.nox, L2.Cx.wish]
  refine blk_new (ds := (List.replicate rows.length (none : Option Int)).map O) (EvN.to (ev_rep (x := .non) (a := (rows.length : Int)) (EvN.e (ev_lst (ea_cons ev_non ea_nil))) (by walk_at "ev") (by omega) (by omega)) (by rw [List.map_replicate, Int.toNat_natCast]; rfl)) ?_
  refine blk_seq (sd_fold baStep (List.replicate rows.length none) (fun s => ol 2 (s.map O)) (fun _ => [some (LI rows), some (L LI ways), none, none, none]) (it_enumL (us := ways) (ev_var rfl)) rfl (by walk_at "le") ?_) blk_retO
  intro i x hx s hs
  have each : ∀ y ∈ enumL ways, 2 ≤ y.2.length ∧ y.2.length ≤ 12 := fun y hy => by
    obtain ⟨j, hj⟩ := List.getElem?_of_mem hy
    obtain ⟨a, b, _⟩ := hw.each y.2 (List.mem_of_getElem? (enumL_take ways j y hj).2)
    exact ⟨a, b⟩
  obtain ⟨w1, w2⟩ := each x (List.mem_of_getElem? hx)
  have hwl := hw.len
  have hsl := ba_len ((enumL ways).take i) (List.replicate rows.length none) fun v hv => (each v (List.mem_of_mem_take hv)).2
  rw [← hs, List.length_take, enumL_length, List.length_replicate] at hsl
  have e2 : ((x.2.length : Int) - 2).toNat = x.2.length - 2 := by omega
  refine ⟨_, _, tg_pair (tg_name (nin rfl)) (tg_name (nin rfl)), ?_⟩
  refine sd1_ext (es := List.replicate (x.2.length - 2) (.int (x.1 : Int))) (EvN.e (EvN.to (ev_rep (x := .int (x.1 : Int)) (a := (x.2.length : Int) - 2) (EvN.e (ev_lst (ea_cons (ev_var rfl) ea_nil))) (by walk_at "ev") (by omega) (by omega)) (by rw [e2]))) ?_ (by walk_at "le") ?_
  · unfold baStep
    rw [List.map_append, List.map_replicate]
    rfl
  · rw [List.length_map, List.length_replicate]
    omega

/-! ### a told list, compared and spoilt -/
def R_is_list (ds es : List Dt) : Prop := Lay (.lst ds) ∧ Lay (.lst es) ∧ PyData.eqv (Dt.lst ds).py (Dt.lst es).py = true ∧ ds.length ≤ 10000
theorem ok_law_is_list {f : Addr} {fd : FuncData} (F : Fun K "_law_is_list" "_law_is_list" s_law_is_list f fd) (T : Gb K mg N S) : FnOk P w K mg base CX0 1 f fd ["_law_told", "_law_due"] (spSpoil R_is_list) := by
  refine F.ok sc_law_is_list (fun vs H Q E h => ?_) (fun cdv A outer s H vs Q E hr h => ?_)
  · obtain ⟨_, _, _, _, _, _, rfl, _⟩ := h
    rfl
  · obtain ⟨F, p, xs, ds, es, v, rfl, eF, nf, hp, hxs, hv, ⟨l1, l2, eqv, hlen⟩, q⟩ := h
    refine ⟨_, (pss_cons (ps_if (PW.pt (pw_or (pt_not (pt_val (pe_callB (isiK (K := K) rfl) (by rfl) T.isinstance b_isinstance (pa_cons (pv 0) (pa_cons (pe_bltn (v := .ty "list") (by rfl) T.list b_list rfl) pa_nil))))) (pw_or1 (pt_cmpR (neK (K := K) rfl hr.units) (pv 0) (pv 1) (nomark _)))))
        (pss_one (ps_ret pe_bl))
        pss_nil)
      (pss_cons (ps_expr (pe_bm0 PySem.F.plainAttrs_list PySem.F.slot_list_reverse PySem.F.type_list_reverse mt_reverse (pv 0)))
      (pss_cons (ps_expr (pe_bmK (K := K) rfl PySem.F.plainAttrs_list PySem.F.slot_list_append PySem.F.type_list_append mt_append (pv 0) (pa_cons pe_non pa_nil)))
      (pss_one (ps_ret pe_bl))))), ?_⟩
    try dsimp only [L2.cxOf, L2.Cx.nox, L2.Cx.wish]
    have k0 : Ok F (era H p) (ol 0 ds) [none, some (.lst es)] F (L2.start nm_law_is_list [.ref p, v]) H := by
      refine ⟨⟨Same.refl F, eF, era_same, fun _ _ _ h => h⟩, fun j d hd => ?_, rfl, p, xs, rfl, era_self, nf, hp, hxs⟩
      match j, hd with
      | 1, hd =>
        cases hd
        exact ⟨v, rfl, hv⟩
      | j + 2, hd => cases hd
    refine run_blk (r := .dat (.bl true)) k0 ?_ fun v' H' ⟨F', g, rv⟩ => ?_
    · refine blk_ifr (c := false) (EvT.to (et_or (et_not (et_B (b := true) (Ev.b (ev_isi (d := .lst ds) (n := "list") evb_own rfl (by decide +kernel))))) fun _ => et_test (Ev.b (ev_neD (x := .lst ds) (y := .lst es) evb_own (by walk_at "ev") l1 l2))) ?_) (fun hc => by cases hc) fun _ => ?_
      · rw [eqv]
        rfl
      refine blk_seq sd_rev ?_
      refine blk_seq (sd_app (d := .non) ev_non (by rw [List.length_reverse]; omega)) ?_
      exact blk_ret ev_bl
    · cases rv
      exact q F' H' g.ff g.fh (fun b ob hbp hbo => g.hh b ob ((era_ne hbp).trans hbo)) fun b ob hbp hbo hn => g.ap b ob ((era_ne hbp).trans hbo) hn

end
end Dl

namespace Dl
open PySem L2
local macro_rules | `(tactic| walk_at "le") => `(tactic| repeat (first | exact LeE.nil | refine LeE.keep ?_ | refine LeE.drop ?_))
local macro_rules | `(tactic| walk_at "e") => `(tactic| first
  | (with_reducible apply Ev.b); walk_at "e"
  | (with_reducible apply ev_var); exact rfl
  | with_reducible apply ev_int
  | with_reducible apply ev_str
  | with_reducible apply ev_bl
  | with_reducible apply ev_non
  | with_reducible apply evb_own
  | ((with_reducible apply ev_add) <;> walk_at "e")
  | ((with_reducible apply ev_sub) <;> walk_at "e")
  | ((with_reducible apply ev_mod) <;> first | walk_at "e" | skip)
  | ((with_reducible apply ev_div) <;> first | walk_at "e" | skip)
  | ((with_reducible apply ev_mul) <;> first | walk_at "e" | skip)
  | ((with_reducible apply ev_pow) <;> first | walk_at "e" | skip)
  | ((with_reducible apply ev_lt) <;> walk_at "e")
  | ((with_reducible apply ev_le) <;> walk_at "e")
  | ((with_reducible apply ev_gt) <;> walk_at "e")
  | ((with_reducible apply ev_ge) <;> walk_at "e")
  | ((with_reducible apply ev_len) <;> walk_at "e")
  | ((with_reducible apply ev_lenR) <;> walk_at "e")
  | with_reducible apply ea_nil
  | with_reducible apply eb_nil
  | ((with_reducible apply ea_cons) <;> walk_at "e")
  | ((with_reducible apply eb_cons) <;> walk_at "e")
  | ((with_reducible apply et_test) <;> walk_at "e")
  | ((with_reducible apply et_B) <;> walk_at "e"))
local macro_rules | `(tactic| walk_at "ev") => `(tactic| (walk_at "e" <;> first | done | decide | omega | assumption | exact cmul_l (by decide) (by decide) | exact cmul_r (by decide) (by decide) | exact cpow_mk (by decide) (by decide) (by decide) | exact cdiv_mk (by decide) (by decide)))
section
variable {P : Program} {w : World} {K : PySem.W.Frag} {mg : Str → Option Value} {base : Heap} {N S : Addr}
/-! ### what a net's making asks -/
def R_is_word (ds : List Dt) (d : Dt) : Prop := ∃ x : Str, ds = [.str x] ∧ WordOk x ∧ d = .bl true
theorem ok_is_word {f : Addr} {fd : FuncData} (F : Fun K "is_word" "is_word" s_is_word f fd) (T : Gb K mg N S) : FnOk P w K mg base CX0 1 f fd ["thing"] (spD R_is_word) := by
  refine fn_dat F sc_is_word (by rintro _ _ ⟨_, rfl, _⟩; rfl) fun cdv A outer s H E hr ds d h => ?_
  obtain ⟨x, rfl, hx, rfl⟩ := h
  refine ⟨_, (pss_one (ps_ret (pe_and (pe_callB (isiK (K := K) rfl) (by rfl) T.isinstance b_isinstance (pa_cons (pv 0) (pa_cons (pe_bltn (v := .ty "str") (by rfl) T.str b_str rfl) pa_nil))) (pe_and (pe_cmpR (neK (K := K) rfl hr.units) (pv 0) pe_str (nomark _)) (pe_one (pe_callB (allK (K := K) rfl rfl) (by rfl) T.all b_all (pa_cons (pe_lc (own := [("sign", 1)]) rfl sc_is_word.nd (pi_any (pv 0)) (blkOk_by (own := [("sign", 1)]) (N := nm_is_word) (sc := defScope s_is_word) (by decide +kernel)) (fun _ _ _ _ _ => (pg_name (i := 1) sc_is_word.nd rfl (.inl rfl))) (fun _ _ _ _ _ => pts_nil) (fun _ _ _ _ _ => (pe_cmpR (inK (K := K) rfl (Room.u65 hr)) (pv 1) (pe_globS T.cAbc rfl) (by rfl)))) pa_nil))))))), ?_⟩
  try dsimp only [L2.cxOf, L2.Cx.nox, L2.Cx.wish]
  have hne : x ≠ Str.ofString "" := fun z => by
    have e : (Str.ofString "").cps.toList = [] := by decide +kernel
    exact hx.1 (by rw [z]; exact e)
  have hsk : SOk (Str.ofString "") := fun c hc => by
    have e : (Str.ofString "").cps.toList = [] := by decide +kernel
    rw [e] at hc
    cases hc
  refine blk_ret (Ev.to (ev_and (a := true) (b := true) (Ev.b (ev_isi (d := .str x) (n := "str") (Ev.b (ev_var rfl)) rfl (by decide +kernel))) fun _ => Ev.b (Ev.to (ev_and (a := true) (b := true) (EvB.to (Ev.b (ev_ne (u := x) (v := Str.ofString "") enc_str (by walk_at "ev") (by walk_at "ev") (lay_str hx.sok) (lay_str hsk))) (by rw [decide_eq_false hne]; rfl)) fun _ => ?_) rfl)) rfl)
  refine EvB.to (Ev.b (ev_all (bs := x.cps.toList.map fun _ => true) (Ev.b (EvN.e (EvN.to (evn_lc1 (xs := x.cps.toList) (f := fun c => .str ⟨#[c]⟩) (fun _ => .bl true) (it_str (by walk_at "ev")) (fun j hj => nin (by
    rw [List.mem_singleton.mp hj]
    rfl)) (by have := hx.2.1; omega) fun c hc => ⟨_, _, tg_name (nin rfl), fun j hj => hj, ?_⟩) (by rw [List.map_map]; rfl)))))) ?_
  · refine Ev.to (ev_inS (c := c) (w := Str.ofString "abcdefghijklmnopqrstuvwxyz") (by walk_at "ev") (by walk_at "ev")) ?_
    have hcb := hx.2.2 c hc
    rw [decide_eq_true (by
      rw [abc_list]
      exact List.mem_map.mpr ⟨c - 97, List.mem_range.mpr (by omega), by omega⟩)]
  · have h : ∀ l : List Nat, (l.map fun _ => true).all id = true := fun l => by
      induction l with
      | nil => rfl
      | cons c l ih => exact ih
    rw [h]
def R_is_number (ds : List Dt) (d : Dt) : Prop := ∃ x : Int, ds = [.int x] ∧ d = .bl true
theorem ok_is_number {f : Addr} {fd : FuncData} (F : Fun K "is_number" "is_number" s_is_number f fd) (T : Gb K mg N S) : FnOk P w K mg base CX0 1 f fd ["thing"] (spD R_is_number) := by
  refine fn_dat F sc_is_number (by rintro _ _ ⟨_, rfl, _⟩; rfl) fun cdv A outer s H E hr ds d h => ?_
  obtain ⟨x, rfl, rfl⟩ := h
  refine ⟨_, (pss_one (ps_ret (pe_and (pe_callB (isiK (K := K) rfl) (by rfl) T.isinstance b_isinstance (pa_cons (pv 0) (pa_cons (pe_bltn (v := .ty "int") (by rfl) T.int b_int rfl) pa_nil))) (pe_one (pe_not (pe_callB (isiK (K := K) rfl) (by rfl) T.isinstance b_isinstance (pa_cons (pv 0) (pa_cons (pe_bltn (v := .ty "bool") (by rfl) T.bool b_bool rfl) pa_nil)))))))), ?_⟩
  try dsimp only [L2.cxOf, L2.Cx.nox, L2.Cx.wish]
  exact blk_ret (Ev.to (ev_and (a := true) (b := true) (Ev.b (ev_isi (d := .int x) (n := "int") (Ev.b (ev_var rfl)) rfl (by decide +kernel))) fun _ => EvB.to (Ev.b (ev_not (a := false) (Ev.b (ev_isi (d := .int x) (n := "int") (Ev.b (ev_var rfl)) rfl (by decide +kernel))))) rfl) rfl)
def R_is_arrow (ds : List Dt) (d : Dt) : Prop := ∃ (p : Int × Int) (many : Int), ds = [PR p, .int many] ∧ ArIn many p ∧ d = .bl true
theorem ok_is_arrow {f : Addr} {fd : FuncData} (F : Fun K "is_arrow" "is_arrow" s_is_arrow f fd) (T : Gb K mg N S) (c_is_number : Cal P w K mg base "is_number" ["thing"] 1 (spD R_is_number)) : FnOk P w K mg base CX0 2 f fd ["thing", "many"] (spD R_is_arrow) := by
  refine fn_dat F sc_is_arrow (by rintro _ _ ⟨_, _, rfl, _⟩; rfl) fun cdv A outer s H E hr ds d h => ?_
  obtain ⟨p, m, rfl, ⟨a1, a2, a3, a4, a5⟩, rfl⟩ := h
  refine ⟨_, (pss_cons (ps_if (PW.pt (pw_or (pt_not (pt_val (pe_callB (isiK (K := K) rfl) (by rfl) T.isinstance b_isinstance (pa_cons (pv 0) (pa_cons (pe_bltn (v := .ty "tuple") (by rfl) T.tuple b_tuple rfl) pa_nil))))) (pw_or (pt_cmpR (neK (K := K) rfl hr.units) (pe_callB (lenK (K := K) rfl) (by rfl) T.len b_len (pa_cons (pv 0) pa_nil)) pe_int (nomark _)) (pw_or1 (pt_not (pt_val (pe_callB (allK (K := K) rfl rfl) (by rfl) T.all b_all (pa_cons (pe_lc (own := [("end", 2)]) rfl sc_is_arrow.nd (pi_any (pv 0)) (blkOk_by (own := [("end", 2)]) (N := nm_is_arrow) (sc := defScope s_is_arrow) (by decide +kernel)) (fun _ _ _ _ _ => (pg_name (i := 2) sc_is_arrow.nd rfl (.inl rfl))) (fun _ _ _ _ _ => pts_nil) (fun _ _ _ _ _ => (pe_callC c_is_number (hr.mono (by decide)) (by rfl) (pa_cons (pv 2) pa_nil)))) pa_nil))))))))
        (pss_one (ps_ret pe_bl))
        pss_nil)
      (pss_one (ps_ret (pe_and (pe_cmpR (neK (K := K) rfl hr.units) (pe_ix (ixK (K := K) rfl) (pv 0) pe_int (fun _ _ => rfl)) (pe_ix (ixK (K := K) rfl) (pv 0) pe_int (fun _ _ => rfl)) (nomark _)) (pe_and (pe_cmpR op_geI (pe_callB (minK (K := K) rfl rfl) (by rfl) T.min b_min (pa_cons (pv 0) pa_nil)) pe_int (nomark _)) (pe_one (pe_cmpR op_ltI (pe_callB (maxK (K := K) rfl rfl) (by rfl) T.max b_max (pa_cons (pv 0) pa_nil)) (pv 1) (nomark _)))))))), ?_⟩
  try dsimp only [L2.cxOf, L2.Cx.nox, L2.Cx.wish]
  refine blk_ifr (c := false) (EvT.to (et_or (a := false) (EvT.to (et_not (et_B (b := true) (Ev.b (ev_isi (d := .tup [.int p.1, .int p.2]) (n := "tuple") (Ev.b (ev_var rfl)) rfl (by decide +kernel))))) rfl) fun _ => et_or (a := false) (b := false) (EvT.to (et_test (Ev.b (ev_ne (u := (2 : Int)) (v := (2 : Int)) enc_int (Ev.b (ev_lenT (ds := [.int p.1, .int p.2]) (Ev.b (ev_var rfl)))) (Ev.b ev_int) lay_int lay_int))) rfl) fun _ => EvT.to (et_not (et_B (b := true) ?_)) rfl) rfl) (fun hc => by cases hc) fun _ => ?_
  · refine EvB.to (Ev.b (ev_all (bs := [true, true]) (Ev.b (EvN.e (EvN.to (evn_lc1 (xs := [p.1, p.2]) (f := Dt.int) (fun _ => .bl true) (it_tup (ds := [.int p.1, .int p.2]) (ev_var rfl)) (fun j hj => nin (by
      rw [List.mem_singleton.mp hj]
      rfl)) (by show 2 < 100000; decide) fun c hc => ⟨_, _, tg_name (nin rfl), fun j hj => hj, ?_⟩) rfl))))) rfl
    exact ev_call (R := R_is_number) (by walk_at "ev") ⟨c, rfl, rfl⟩
  · refine blk_ret (Ev.to (ev_and (a := true) (b := true) (EvB.to (Ev.b (ev_ne (u := p.1) (v := p.2) enc_int (Ev.b (ev_fst (f := Dt.int) (g' := Dt.int) (p := p) (ev_var rfl))) (Ev.b (ev_snd (f := Dt.int) (g' := Dt.int) (p := p) (ev_var rfl))) lay_int lay_int)) (by rw [decide_eq_false a5]; rfl)) fun _ =>
      Ev.b (Ev.to (ev_and (a := true) (b := true) (EvB.to (Ev.b (ev_ge (a := min p.1 p.2) (b := 0) (Ev.b (ev_minT (a := p.1) (b := p.2) (Ev.b (ev_var rfl)))) (Ev.b ev_int))) (by rw [decide_eq_true (by omega)])) fun _ =>
      EvB.to (Ev.b (ev_lt (a := max p.1 p.2) (b := m) (Ev.b (ev_maxT (a := p.1) (b := p.2) (Ev.b (ev_var rfl)))) (Ev.b (ev_var rfl)))) (by rw [decide_eq_true (by omega)])) rfl)) rfl)
/-- names of a net -/
def NamesOk (names : List Str) : Prop := names ≠ [] ∧ names.length ≤ 12 ∧ names.Nodup ∧ ∀ s ∈ names, WordOk s
def ArsOk (many : Int) (ps : List (Int × Int)) : Prop := ps.length ≤ 24 ∧ ps.Nodup ∧ ∀ p ∈ ps, ArIn many p
theorem not_before {α : Type} [DecidableEq α] {us : List α} (h : us.Nodup) {i : Nat} {u : α} (e : us[i]? = some u) : u ∉ us.take i := fun z => by
  obtain ⟨j, hj⟩ := List.getElem?_of_mem z
  have hjl := (List.getElem?_eq_some_iff.mp hj).1
  rw [List.length_take] at hjl
  rw [List.getElem?_take_of_lt (by omega)] at hj
  obtain ⟨l1, e1⟩ := List.getElem?_eq_some_iff.mp e
  obtain ⟨l2, e2⟩ := List.getElem?_eq_some_iff.mp hj
  have := (List.getElem_inj h).mp (e2.trans e1.symm)
  omega
def R_name_fault (ds : List Dt) (d : Dt) : Prop := ∃ names : List Str, ds = [LS names] ∧ NamesOk names ∧ d = .non
theorem ok_name_fault {f : Addr} {fd : FuncData} (F : Fun K "name_fault" "name_fault" s_name_fault f fd) (T : Gb K mg N S) (c_is_word : Cal P w K mg base "is_word" ["thing"] 1 (spD R_is_word)) : FnOk P w K mg base CX0 2 f fd ["names"] (spD R_name_fault) := by
  refine fn_dat F sc_name_fault (by rintro _ _ ⟨_, rfl, _⟩; rfl) fun cdv A outer s H E hr ds d h => ?_
  obtain ⟨names, rfl, ⟨h1, h2, h3, h4⟩, rfl⟩ := h
  refine ⟨_, (pss_cons (ps_if (PW.pt (pw_or (pt_cmpR (eqK (K := K) rfl hr.units) (pv 0) (pe_lst pa_nil) (nomark _)) (pw_or1 (pt_cmpR op_gtI (pe_callB (lenK (K := K) rfl) (by rfl) T.len b_len (pa_cons (pv 0) pa_nil)) (pe_globI T.cBoxes rfl) (nomark _)))))
        (pss_one (ps_ret (pe_tup (pa_cons pe_str (pa_cons (pe_callB (lenK (K := K) rfl) (by rfl) T.len b_len (pa_cons (pv 0) pa_nil)) pa_nil)))))
        pss_nil)
      (pss_cons (ps_for PassesOwn.never rfl (pi_enumA (by rfl) T.enumerate (pa_cons (pv 0) pa_nil)) (pg_tupK (K := K) (n := 2) rfl rfl (pgs_cons (pg_name (i := 1) sc_name_fault.nd rfl (.inl rfl)) (pgs_cons (pg_name (i := 2) sc_name_fault.nd rfl (.inl rfl)) pgs_nil)))
        (pss_one (ps_if (PW.pt (pw_or (pt_not (pt_val (pe_callC c_is_word (hr.mono (by decide)) (by rfl) (pa_cons (pv 2) pa_nil)))) (pw_or (pt_cmpR op_gtI (pe_callB (lenK (K := K) rfl) (by rfl) T.len b_len (pa_cons (pv 2) pa_nil)) (pe_globI T.cLetters rfl) (nomark _)) (pw_or1 (pt_cmpR (inK (K := K) rfl (Room.u65 hr)) (pv 2) (pe_slice (slK (K := K) rfl) (pv 0) po_none (po_some (pv 1))) (by rfl))))))
          (pss_one (ps_ret (pe_tup (pa_cons pe_str (pa_cons (pv 1) pa_nil)))))
          pss_nil)))
      (pss_one (ps_ret pe_non)))), ?_⟩
  try dsimp only [L2.cxOf, L2.Cx.nox, L2.Cx.wish]
  have hs : ∀ x ∈ names, SOk x := fun x hx => (h4 x hx).sok
  refine blk_ifr (c := false) (EvT.to (et_or (a := false) (b := false) (EvT.to (et_test (Ev.b (ev_eq (u := names) (v := ([] : List Str)) (enc_L enc_str) (Ev.b (ev_var rfl)) (Ev.b (EvN.e (ev_lst ea_nil))) (lay_strs hs) (lay_strs fun x hx => by cases hx)))) (decide_eq_false h1)) fun _ => EvT.to (et_test (Ev.b (ev_gt (a := (names.length : Int)) (b := 12) (by walk_at "ev") (by walk_at "ev")))) (decide_eq_false (by omega))) rfl) (fun hc => by cases hc) fun _ => ?_
  refine blk_seq (sd_fold (fun (s : Unit) _ => s) () (fun _ => noO) (fun _ => [some (LS names), none, none]) (it_enumL (us := names) (ev_var rfl)) rfl (by walk_at "le") ?_) (blk_ret ev_non)
  intro i x hx s hs'
  obtain ⟨e1, e2⟩ := enumL_take _ i x hx
  have hw := h4 x.2 (List.mem_of_getElem? e2)
  have hl8 := hw.2.1
  rw [← str_len] at hl8
  refine ⟨_, _, tg_pair (tg_name (nin rfl)) (tg_name (nin rfl)), ?_⟩
  refine Sd.weak (sd_no (EvT.to (et_or (a := false) (b := false) (EvT.to (et_not (et_B (b := true) (Ev.b (ev_call (R := R_is_word) (by walk_at "ev") ⟨x.2, rfl, hw, rfl⟩)))) rfl) fun _ => et_or (a := false) (b := false) (EvT.to (et_test (Ev.b (ev_gt (a := (x.2.length : Int)) (b := 8) (Ev.b (ev_lenS (w := x.2) (by walk_at "ev") (by omega))) (by walk_at "ev")))) (decide_eq_false (by omega))) fun _ => EvT.to (et_test (Ev.b (ev_inD (u := x.2) (us := names.take ((x.1 : Int)).toNat) enc_str (by walk_at "ev") (Ev.b (EvN.e (ev_take (f := Dt.str) (us := names) (ev_var rfl) (by walk_at "ev") (by omega)))) (lay_str hw.sok) (lay_strs fun y hy => hs y (List.mem_of_mem_take hy))))) (decide_eq_false ?_)) rfl)) (by walk_at "le")
  rw [Int.toNat_natCast, e1]
  exact not_before h3 e2
def R_arrow_fault (ds : List Dt) (d : Dt) : Prop := ∃ (ps : List (Int × Int)) (many : Int), ds = [LP ps, .int many] ∧ ArsOk many ps ∧ d = .non
theorem ok_arrow_fault {f : Addr} {fd : FuncData} (F : Fun K "arrow_fault" "arrow_fault" s_arrow_fault f fd) (T : Gb K mg N S) (c_is_arrow : Cal P w K mg base "is_arrow" ["thing", "many"] 2 (spD R_is_arrow)) : FnOk P w K mg base CX0 3 f fd ["arrows", "many"] (spD R_arrow_fault) := by
  refine fn_dat F sc_arrow_fault (by rintro _ _ ⟨_, _, rfl, _⟩; rfl) fun cdv A outer s H E hr ds d h => ?_
  obtain ⟨ps, m, rfl, ⟨h1, h2, h3⟩, rfl⟩ := h
  refine ⟨_, (pss_cons (ps_if (pt_cmpR op_gtI (pe_callB (lenK (K := K) rfl) (by rfl) T.len b_len (pa_cons (pv 0) pa_nil)) (pe_globI T.cArrows rfl) (nomark _))
        (pss_one (ps_ret (pe_tup (pa_cons pe_str (pa_cons (pe_callB (lenK (K := K) rfl) (by rfl) T.len b_len (pa_cons (pv 0) pa_nil)) pa_nil)))))
        pss_nil)
      (pss_cons (ps_for PassesOwn.never rfl (pi_enumA (by rfl) T.enumerate (pa_cons (pv 0) pa_nil)) (pg_tupK (K := K) (n := 2) rfl rfl (pgs_cons (pg_name (i := 2) sc_arrow_fault.nd rfl (.inl rfl)) (pgs_cons (pg_name (i := 3) sc_arrow_fault.nd rfl (.inl rfl)) pgs_nil)))
        (pss_one (ps_if (PW.pt (pw_or (pt_not (pt_val (pe_callC c_is_arrow (hr.mono (by decide)) (by rfl) (pa_cons (pv 3) (pa_cons (pv 1) pa_nil))))) (pw_or1 (pt_cmpR (inK (K := K) rfl (Room.u65 hr)) (pv 3) (pe_slice (slK (K := K) rfl) (pv 0) po_none (po_some (pv 2))) (by rfl)))))
          (pss_one (ps_ret (pe_tup (pa_cons pe_str (pa_cons (pv 2) pa_nil)))))
          pss_nil)))
      (pss_one (ps_ret pe_non)))), ?_⟩
  try dsimp only [L2.cxOf, L2.Cx.nox, L2.Cx.wish]
  refine blk_ifr (c := false) (EvT.to (et_test (Ev.b (ev_gt (a := (ps.length : Int)) (b := 24) (by walk_at "ev") (by walk_at "ev")))) (decide_eq_false (by omega))) (fun hc => by cases hc) fun _ => ?_
  refine blk_seq (sd_fold (fun (s : Unit) _ => s) () (fun _ => noO) (fun _ => [some (LP ps), some (.int m), none, none]) (it_enumL (us := ps) (ev_var rfl)) rfl (by walk_at "le") ?_) (blk_ret ev_non)
  intro i x hx s hs'
  obtain ⟨e1, e2⟩ := enumL_take _ i x hx
  refine ⟨_, _, tg_pair (tg_name (nin rfl)) (tg_name (nin rfl)), ?_⟩
  refine Sd.weak (sd_no (EvT.to (et_or (a := false) (b := false) (EvT.to (et_not (et_B (b := true) (Ev.b (ev_call (R := R_is_arrow) (by walk_at "ev") ⟨x.2, m, rfl, h3 x.2 (List.mem_of_getElem? e2), rfl⟩)))) rfl) fun _ => EvT.to (et_test (Ev.b (ev_inD (u := x.2) (us := ps.take ((x.1 : Int)).toNat) enc_PR (by walk_at "ev") (Ev.b (EvN.e (ev_take (f := PR) (us := ps) (ev_var rfl) (by walk_at "ev") (by omega)))) lay_PR lay_PRs))) (dec_f ?_)) rfl)) (by walk_at "le")
  rw [Int.toNat_natCast, e1]
  exact not_before h2 e2

/-! ### a net -/
def netF (names : List Str) (ps : List (Int × Int)) : List (Str × Dt) := [(Str.ofString "box_names", LS names), (Str.ofString "own_arrows", LP ps)]
abbrev netD (N : Addr) (names : List Str) (ps : List (Int × Int)) : Dt := .obj N (netF names ps)
theorem nf_ne : (Str.ofString "box_names" = Str.ofString "own_arrows") = False := by
  have h : ¬ Str.ofString "box_names" = Str.ofString "own_arrows" := by decide +kernel
  exact eq_false h
theorem nf1 (names : List Str) (ps : List (Int × Int)) : (netF names ps).lookup (Str.ofString "box_names") = some (LS names) := by
  unfold netF
  rw [List.lookup_cons, beq_self_eq_true]
theorem nf2 (names : List Str) (ps : List (Int × Int)) : (netF names ps).lookup (Str.ofString "own_arrows") = some (LP ps) := by
  have h : (Str.ofString "own_arrows" == Str.ofString "box_names") = false := by decide +kernel
  unfold netF
  rw [List.lookup_cons, h]
  show List.lookup _ [(Str.ofString "own_arrows", LP ps)] = _
  rw [List.lookup_cons, beq_self_eq_true]
theorem nf_no {m : Str} (h1 : (m == Str.ofString "box_names") = false) (h2 : (m == Str.ofString "own_arrows") = false) (names : List Str) (ps : List (Int × Int)) : (netF names ps).lookup m = none := by
  unfold netF
  rw [List.lookup_cons, h1]
  show List.lookup _ [(Str.ofString "own_arrows", LP ps)] = _
  rw [List.lookup_cons, h2]
  rfl
theorem put1 (x : Dt) : putD (Str.ofString "box_names") x [] = [(Str.ofString "box_names", x)] := rfl
theorem put2 (x y : Dt) : putD (Str.ofString "own_arrows") y [(Str.ofString "box_names", x)] = [(Str.ofString "box_names", x), (Str.ofString "own_arrows", y)] := by
  unfold putD
  rw [if_neg (by rw [nf_ne]; exact fun z => z)]
  rfl
def R_Net (ds : List Dt) (fds : List (Str × Dt)) : Prop := ∃ (names : List Str) (ps : List (Int × Int)), ds = [LS names, LP ps] ∧ NamesOk names ∧ ArsOk names.length ps ∧ fds = netF names ps
theorem ok_Net_init {f : Addr} {fd : FuncData} (F : Fun K "__init__" "Net.__init__" s_Net_init f fd) (T : Gb K mg N S) (c_name_fault : Cal P w K mg base "name_fault" ["names"] 2 (spD R_name_fault)) (c_arrow_fault : Cal P w K mg base "arrow_fault" ["arrows", "many"] 3 (spD R_arrow_fault)) :
    FnOk P w K mg base CX0 4 f fd ["self", "names", "arrows"] (spInit N R_Net) := by
  refine fn_init F sc_Net_init (by rintro _ _ ⟨_, _, rfl, _⟩; rfl) fun cdv A outer s H E hr p ds fds h => ?_
  obtain ⟨names, ps, rfl, hn, ha, rfl⟩ := h
  refine ⟨_, (pss_cons (ps_fld (pv 0) (pe_callTy (listK (K := K) rfl) (by rfl) T.list b_list (pa_cons (pv 1) pa_nil)) rfl)
      (pss_cons (ps_fld (pv 0) (pe_callTy (listK (K := K) rfl) (by rfl) T.list b_list (pa_cons (pv 2) pa_nil)) rfl)
      (pss_cons (ps_set (i := 3) sc_Net_init.nd rfl (.inl rfl) (pe_callC c_name_fault (hr.mono (by decide)) (by rfl) (pa_cons (pe_fld (pv 0) rfl) pa_nil)))
      (pss_cons (ps_if (pt_cmpR op_isN1 (pv 3) pe_non (nomark _))
        (pss_one (ps_set (i := 3) sc_Net_init.nd rfl (.inl rfl) (pe_callC c_arrow_fault (hr.mono (by decide)) (by rfl) (pa_cons (pe_fld (pv 0) rfl) (pa_cons (pe_callB (lenK (K := K) rfl) (by rfl) T.len b_len (pa_cons (pe_fld (pv 0) rfl) pa_nil)) pa_nil)))))
        pss_nil)
      (pss_one (ps_if (pt_cmpR op_notN1 (pv 3) pe_non (nomark _))
        (pss_one ps_never)
        pss_nil)))))), ?_⟩
  try dsimp only [L2.cxOf, L2.Cx.nox, L2.Cx.wish]
  refine ⟨[none, some (LS names), some (LP ps), some .non], ?_⟩
  refine sd_seq (sd_fld (d := LS names) (EvN.e (ev_list (Ev.to (ev_var (d := LS names) rfl) rfl))) T.clN T.nNames (by decide)) ?_
  rw [put1]
  refine sd_seq (sd_fld (d := LP ps) (EvN.e (ev_list (Ev.to (ev_var (d := LP ps) rfl) rfl))) T.clN T.nArrows (by show 1 < 1000; decide)) ?_
  rw [put2]
  refine sds_set (d := .non) (ev_call (R := R_name_fault) (ea_cons (ev_self (fds := netF names ps) T.clN T.nNames (nf1 names ps)) ea_nil) ⟨names, rfl, hn, rfl⟩) ?_
  refine sd_seq (sd_if (o1 := oself 0 p N (netF names ps)) (en1 := [none, some (LS names), some (LP ps), some .non]) (c := true) (et_isN (d := .non) (Ev.b (ev_var rfl)) true rfl) (fun _ => ?_) fun hc => by cases hc) ?_
  · exact sd1_set .non (ev_call (R := R_arrow_fault) (ea_cons (ev_self (fds := netF names ps) T.clN T.nArrows (nf2 names ps)) (ea_cons (ev_len (Ev.b (ev_self (fds := netF names ps) T.clN T.nNames (nf1 names ps)))) ea_nil)) ⟨ps, (names.length : Int), rfl, ha, rfl⟩) rfl (by walk_at "le")
  · exact sd_no (et_notN (d := .non) (Ev.b (ev_var rfl)) false rfl)
def R_Net_names (N : Addr) (ds es : List Dt) : Prop := ∃ (names : List Str) (ps : List (Int × Int)), ds = [netD N names ps] ∧ es = names.map .str
theorem ok_Net_names {f : Addr} {fd : FuncData} (F : Fun K "names" "Net.names" s_Net_names f fd) (T : Gb K mg N S) : FnOk P w K mg base CX0 1 f fd ["self"] (spN (R_Net_names N)) := by
  refine fn_new F sc_Net_names (by rintro _ _ ⟨_, _, rfl, _⟩; rfl) fun cdv A outer s H E hr ds d h => ?_
  obtain ⟨names, ps, rfl, rfl⟩ := h
  refine ⟨_, (pss_one (ps_ret (pe_callTy (listK (K := K) rfl) (by rfl) T.list b_list (pa_cons (pe_fld (pv 0) rfl) pa_nil)))), ?_⟩
  try dsimp only [L2.cxOf, L2.Cx.nox, L2.Cx.wish]
  exact blk_retN (ev_list (Ev.to (ev_fld (ev_var rfl) T.clN T.nNames (nf1 names ps)) rfl))
def R_Net_arrows (N : Addr) (ds es : List Dt) : Prop := ∃ (names : List Str) (ps : List (Int × Int)), ds = [netD N names ps] ∧ es = ps.map PR
theorem ok_Net_arrows {f : Addr} {fd : FuncData} (F : Fun K "arrows" "Net.arrows" s_Net_arrows f fd) (T : Gb K mg N S) : FnOk P w K mg base CX0 1 f fd ["self"] (spN (R_Net_arrows N)) := by
  refine fn_new F sc_Net_arrows (by rintro _ _ ⟨_, _, rfl, _⟩; rfl) fun cdv A outer s H E hr ds d h => ?_
  obtain ⟨names, ps, rfl, rfl⟩ := h
  refine ⟨_, (pss_one (ps_ret (pe_callTy (listK (K := K) rfl) (by rfl) T.list b_list (pa_cons (pe_fld (pv 0) rfl) pa_nil)))), ?_⟩
  try dsimp only [L2.cxOf, L2.Cx.nox, L2.Cx.wish]
  exact blk_retN (ev_list (Ev.to (ev_fld (ev_var rfl) T.clN T.nArrows (nf2 names ps)) rfl))
def R_Net_many (N : Addr) (ds : List Dt) (d : Dt) : Prop := ∃ (names : List Str) (ps : List (Int × Int)), ds = [netD N names ps] ∧ d = .int (names.length : Int)
theorem ok_Net_many {f : Addr} {fd : FuncData} (F : Fun K "many" "Net.many" s_Net_many f fd) (T : Gb K mg N S) : FnOk P w K mg base CX0 1 f fd ["self"] (spD (R_Net_many N)) := by
  refine fn_dat F sc_Net_many (by rintro _ _ ⟨_, _, rfl, _⟩; rfl) fun cdv A outer s H E hr ds d h => ?_
  obtain ⟨names, ps, rfl, rfl⟩ := h
  refine ⟨_, (pss_one (ps_ret (pe_callB (lenK (K := K) rfl) (by rfl) T.len b_len (pa_cons (pe_fld (pv 0) rfl) pa_nil)))), ?_⟩
  try dsimp only [L2.cxOf, L2.Cx.nox, L2.Cx.wish]
  exact blk_ret (ev_len (Ev.b (ev_fld (ev_var rfl) T.clN T.nNames (nf1 names ps))))

end
end Dl

namespace Dl
open PySem L2
local macro_rules | `(tactic| walk_at "le") => `(tactic| repeat (first | exact LeE.nil | refine LeE.keep ?_ | refine LeE.drop ?_))
local macro_rules | `(tactic| walk_at "e") => `(tactic| first
  | (with_reducible apply Ev.b); walk_at "e"
  | (with_reducible apply ev_var); exact rfl
  | with_reducible apply ev_int
  | with_reducible apply ev_str
  | with_reducible apply ev_bl
  | with_reducible apply ev_non
  | with_reducible apply evb_own
  | ((with_reducible apply ev_add) <;> walk_at "e")
  | ((with_reducible apply ev_sub) <;> walk_at "e")
  | ((with_reducible apply ev_mod) <;> first | walk_at "e" | skip)
  | ((with_reducible apply ev_div) <;> first | walk_at "e" | skip)
  | ((with_reducible apply ev_mul) <;> first | walk_at "e" | skip)
  | ((with_reducible apply ev_pow) <;> first | walk_at "e" | skip)
  | ((with_reducible apply ev_lt) <;> walk_at "e")
  | ((with_reducible apply ev_le) <;> walk_at "e")
  | ((with_reducible apply ev_gt) <;> walk_at "e")
  | ((with_reducible apply ev_ge) <;> walk_at "e")
  | ((with_reducible apply ev_len) <;> walk_at "e")
  | ((with_reducible apply ev_lenR) <;> walk_at "e")
  | with_reducible apply ea_nil
  | with_reducible apply eb_nil
  | ((with_reducible apply ea_cons) <;> walk_at "e")
  | ((with_reducible apply eb_cons) <;> walk_at "e")
  | ((with_reducible apply et_test) <;> walk_at "e")
  | ((with_reducible apply et_B) <;> walk_at "e"))
local macro_rules | `(tactic| walk_at "ev") => `(tactic| (walk_at "e" <;> first | done | decide | omega | assumption | exact cmul_l (by decide) (by decide) | exact cmul_r (by decide) (by decide) | exact cpow_mk (by decide) (by decide) (by decide) | exact cdiv_mk (by decide) (by decide)))
section
variable {P : Program} {w : World} {K : PySem.W.Frag} {mg : Str → Option Value} {base : Heap} {N S : Addr}
/-! ### turned arrows are numbers of arrows, each once -/
def TuOk (m : Nat) (tl : List Int) : Prop := tl.Nodup ∧ tl.length ≤ 24 ∧ ∀ x ∈ tl, 0 ≤ x ∧ x < (m : Int)
theorem evn_arrows {te : TE} {o : Ow} {en : En} {names : List Str} {ps : List (Int × Int)} (h : Ev te o en (netD N names ps)) : EvN (tMeth N "arrows" (spN (R_Net_arrows N)) [] E0 te tNil) o en (ps.map PR) :=
  evn_meth h (nf_no (by decide +kernel) (by decide +kernel) names ps) ea_nil ⟨names, ps, rfl, rfl⟩
theorem ev_many {te : TE} {o : Ow} {en : En} {names : List Str} {ps : List (Int × Int)} (h : Ev te o en (netD N names ps)) : Ev (tMeth N "many" (spD (R_Net_many N)) [] E0 te tNil) o en (.int (names.length : Int)) :=
  ev_meth h (nf_no (by decide +kernel) (by decide +kernel) names ps) ea_nil ⟨names, ps, rfl, rfl⟩
def R_want_turned (N : Addr) (ds : List Dt) (d : Dt) : Prop := ∃ (names : List Str) (ps : List (Int × Int)) (k : Bool) (tl : List Int), ds = [netD N names ps, Dl.S k .int tl] ∧ TuOk ps.length tl ∧ d = .non
theorem ok_want_turned {f : Addr} {fd : FuncData} (F : Fun K "want_turned" "want_turned" s_want_turned f fd) (T : Gb K mg N S) (m_arrows : CalM P w K mg base N "arrows" ["self"] 1 (spN (R_Net_arrows N))) : FnOk P w K mg base CX0 2 f fd ["net", "turned"] (spD (R_want_turned N)) := by
  refine fn_non F sc_want_turned (by rintro _ _ ⟨_, _, _, _, rfl, _⟩; rfl) (by rintro _ _ ⟨_, _, _, _, _, _, rfl⟩; rfl) fun cdv A outer s H E hr ds d h => ?_
  obtain ⟨names, ps, k, tl, rfl, ⟨h1, h2, h3⟩, rfl⟩ := h
  refine ⟨_, (pss_cons (ps_set (i := 2) sc_want_turned.nd rfl (.inl rfl) (pe_callB (lenK (K := K) rfl) (by rfl) T.len b_len (pa_cons (pe_methC0 m_arrows T.clN (hr.mono (by decide)) (pv 0)) pa_nil)))
      (pss_one (ps_for PassesOwn.never rfl (pi_enumA (by rfl) T.enumerate (pa_cons (pv 1) pa_nil)) (pg_tupK (K := K) (n := 2) rfl rfl (pgs_cons (pg_name (i := 3) sc_want_turned.nd rfl (.inl rfl)) (pgs_cons (pg_name (i := 4) sc_want_turned.nd rfl (.inl rfl)) pgs_nil)))
        (pss_one (ps_if (PW.pt (pw_or (pt_val (pe_callB (isiK (K := K) rfl) (by rfl) T.isinstance b_isinstance (pa_cons (pv 4) (pa_cons (pe_bltn (v := .ty "bool") (by rfl) T.bool b_bool rfl) pa_nil)))) (pw_or (pt_cmpR op_ltI (pv 4) pe_int (nomark _)) (pw_or (pt_cmpR op_geI (pv 4) (pv 2) (nomark _)) (pw_or1 (pt_cmpR (inK (K := K) rfl (Room.u65 hr)) (pv 4) (pe_slice (slK (K := K) rfl) (pv 1) po_none (po_some (pv 3))) (by rfl)))))))
          (pss_one ps_never)
          pss_nil))))), ?_⟩
  try dsimp only [L2.cxOf, L2.Cx.nox, L2.Cx.wish]
  refine ⟨noO, [some (netD N names ps), some (Dl.S k .int tl), some (.int (ps.length : Int)), none, none], ?_⟩
  refine sds_set (d := .int (ps.length : Int)) (ev_len (f := PR) (us := ps) (Ev.b (EvN.e (evn_arrows (ev_var rfl))))) ?_
  refine sd_fold (fun (s : Unit) _ => s) () (fun _ => noO) (fun _ => [some (netD N names ps), some (Dl.S k .int tl), some (.int (ps.length : Int)), none, none]) (it_enumS (us := tl) (k := k) (f := Dt.int) (ev_var rfl)) rfl (by walk_at "le") ?_
  intro i x hx s hs
  obtain ⟨e1, e2⟩ := enumL_take _ i x hx
  obtain ⟨b1, b2⟩ := h3 x.2 (List.mem_of_getElem? e2)
  refine ⟨_, _, tg_pair (tg_name (nin rfl)) (tg_name (nin rfl)), ?_⟩
  refine Sd.weak (sd_no (EvT.to (et_or (a := false) (b := false) (et_B (b := false) (Ev.b (ev_isi (d := .int x.2) (n := "int") (Ev.b (ev_var rfl)) rfl (by decide +kernel)))) fun _ =>
    et_or (a := false) (b := false) (EvT.to (et_test (Ev.b (ev_lt (a := x.2) (b := 0) (by walk_at "ev") (by walk_at "ev")))) (decide_eq_false (by omega))) fun _ =>
    et_or (a := false) (b := false) (EvT.to (et_test (Ev.b (ev_ge (a := x.2) (b := (ps.length : Int)) (by walk_at "ev") (by walk_at "ev")))) (decide_eq_false (by omega))) fun _ =>
    EvT.to (et_test (Ev.b (ev_inIS (n := x.2) (ns := tl.take ((x.1 : Int)).toNat) (k := k) (by walk_at "ev") (Ev.b (ev_takeS (f := Dt.int) (us := tl) (k := k) (ev_var rfl) (by walk_at "ev") (by omega)))))) (dec_f ?_)) rfl)) (by walk_at "le")
  rw [Int.toNat_natCast, e1]
  exact not_before h1 e2

/-! ### as they go -/
def R_as_they_go (N : Addr) (ds es : List Dt) : Prop := ∃ (names : List Str) (ps : List (Int × Int)) (k : Bool) (tl : List Int), ds = [netD N names ps, Dl.S k .int tl] ∧ ps.length ≤ 24 ∧ es = (goingOf ps tl).map PR
theorem ok_as_they_go {f : Addr} {fd : FuncData} (F : Fun K "as_they_go" "as_they_go" s_as_they_go f fd) (T : Gb K mg N S) (m_arrows : CalM P w K mg base N "arrows" ["self"] 1 (spN (R_Net_arrows N))) : FnOk P w K mg base CX0 2 f fd ["net", "turned"] (spN (R_as_they_go N)) := by
  refine fn_new F sc_as_they_go (by rintro _ _ ⟨_, _, _, _, rfl, _⟩; rfl) fun cdv A outer s H E hr ds d h => ?_
  obtain ⟨names, ps, k, turned, rfl, hlen, rfl⟩ := h
  refine ⟨_, (pss_cons (ps_set (i := 2) sc_as_they_go.nd rfl (.inl rfl) (pe_lst pa_nil))
      (pss_cons (ps_for PassesOwn.never rfl (pi_enumA (by rfl) T.enumerate (pa_cons (pe_methC0 m_arrows T.clN (hr.mono (by decide)) (pv 0)) pa_nil)) (pg_tupK (K := K) (n := 2) rfl rfl (pgs_cons (pg_name (i := 3) sc_as_they_go.nd rfl (.inl rfl)) (pgs_cons (pg_name (i := 4) sc_as_they_go.nd rfl (.inl rfl)) pgs_nil)))
        (pss_one (ps_if (pt_cmpR (inK (K := K) rfl (Room.u65 hr)) (pv 3) (pv 1) (by rfl))
          (pss_one (ps_expr (pe_bmK (K := K) rfl PySem.F.plainAttrs_list PySem.F.slot_list_append PySem.F.type_list_append mt_append (pv 2) (pa_cons (pe_tup (pa_cons (pe_ix (ixK (K := K) rfl) (pv 4) pe_int (fun _ _ => rfl)) (pa_cons (pe_ix (ixK (K := K) rfl) (pv 4) pe_int (fun _ _ => rfl)) pa_nil))) pa_nil))))
          (pss_one (ps_expr (pe_bmK (K := K) rfl PySem.F.plainAttrs_list PySem.F.slot_list_append PySem.F.type_list_append mt_append (pv 2) (pa_cons (pv 4) pa_nil)))))))
      (pss_one (ps_ret (pv 2))))), ?_⟩
  try dsimp only [L2.cxOf, L2.Cx.nox, L2.Cx.wish]
  refine blk_new (ev_lst ea_nil) ?_
  have e : goingOf ps turned = (enumL ps).foldl (fun s x => s ++ [goWay turned x]) [] := by
    rw [fold_app]
    rfl
  rw [e]
  refine blk_seq (sd_fold (fun s x => s ++ [goWay turned x]) [] (fun s => ol 2 (s.map PR)) (fun s => [some (netD N names ps), some (Dl.S k .int turned), none, none, none]) (it_enumL (us := ps) (EvN.e (evn_arrows (ev_var rfl)))) rfl (by walk_at "le") ?_) blk_retO
  intro i x hx s hs
  have hl : s.length < 100000 := by
    rw [hs, fold_app, List.length_append, List.length_map, List.length_take, enumL_length]
    show 0 + _ < _
    omega
  refine ⟨_, _, tg_pair (tg_name (nin rfl)) (tg_name (nin rfl)), ?_⟩
  refine sd_if (et_test (Ev.b (ev_inIS (n := (x.1 : Int)) (ns := turned) (k := k) (by walk_at "ev") (Ev.b (ev_var rfl))))) (fun hc => ?_) fun hc => ?_
  · have eg : goWay turned x = (x.2.2, x.2.1) := if_pos (of_decide_eq_true hc)
    exact sd1_app (d := PR (x.2.2, x.2.1)) (ev_pair (f := Dt.int) (g' := Dt.int) (ev_snd (f := Dt.int) (g' := Dt.int) (p := x.2) (ev_var rfl)) (ev_fst (f := Dt.int) (g' := Dt.int) (p := x.2) (ev_var rfl))) (by rw [eg, List.map_append]; rfl) (by walk_at "le") (by rw [List.length_map]; exact hl)
  · have eg : goWay turned x = x.2 := if_neg (of_decide_eq_false hc)
    exact sd1_app (d := PR x.2) (ev_var rfl) (by rw [eg, List.map_append]; rfl) (by walk_at "le") (by rw [List.length_map]; exact hl)

/-! ### no ring is left -/
def wayAt (ways : List (Int × Int)) (i : Int) : Int × Int := ways.getD i.toNat (0, 0)
theorem wayAt_get {ways : List (Int × Int)} {i : Int} (h0 : 0 ≤ i) (h1 : i < (ways.length : Int)) : ways[i.toNat]? = some (wayAt ways i) := by
  unfold wayAt
  rw [List.getD_eq_getElem?_getD, List.getElem?_eq_getElem (by omega)]
  rfl
def starts (ways : List (Int × Int)) (left : List Int) : List Int := left.map fun i => (wayAt ways i).1
def gStep (ways : List (Int × Int)) (left : List Int) : List Int := left.filter fun i => decide ((wayAt ways i).2 ∈ starts ways left)
def Valid (ways : List (Int × Int)) (left : List Int) : Prop := (∀ i ∈ left, 0 ≤ i ∧ i < (ways.length : Int)) ∧ left.length ≤ 24
theorem gStep_valid {ways : List (Int × Int)} {left : List Int} (h : Valid ways left) : Valid ways (gStep ways left) :=
  ⟨fun i hi => h.1 i (List.mem_filter.mp hi).1, Nat.le_trans (List.length_filter_le _ _) h.2⟩
theorem no_ring {ways : List (Int × Int)} {order left : List Int} (hf : Fwd order ways) (hv : Valid ways left) (hc : ∀ i ∈ left, (wayAt ways i).2 ∈ starts ways left) : left = [] := by
  have far : ∀ (n : Nat) (i : Int), i ∈ left → ∃ j ∈ left, n ≤ order.idxOf (wayAt ways j).1 := by
    intro n
    induction n with
    | zero => exact fun i hi => ⟨i, hi, Nat.zero_le _⟩
    | succ n ih =>
      intro i hi
      obtain ⟨j, hj, hn⟩ := ih i hi
      obtain ⟨l, hl, e⟩ := List.mem_map.mp (hc j hj)
      obtain ⟨b1, b2⟩ := hv.1 j hj
      have m := (hf _ (List.mem_of_getElem? (wayAt_get b1 b2))).2.2
      refine ⟨l, hl, ?_⟩
      rw [e]
      omega
  cases left with
  | nil => rfl
  | cons i r =>
    obtain ⟨j, hj, hn⟩ := far order.length i List.mem_cons_self
    obtain ⟨b1, b2⟩ := hv.1 j hj
    have m := (hf _ (List.mem_of_getElem? (wayAt_get b1 b2))).1
    have := List.idxOf_lt_length_of_mem m
    omega
theorem gStep_same {ways : List (Int × Int)} {left : List Int} (h : ¬ (gStep ways left).length < left.length) : gStep ways left = left ∧ ∀ i ∈ left, (wayAt ways i).2 ∈ starts ways left := by
  have hl := List.length_filter_le (fun i => decide ((wayAt ways i).2 ∈ starts ways left)) left
  have e : (gStep ways left).length = left.length := by
    unfold gStep at h ⊢
    omega
  have q := List.length_filter_eq_length_iff.mp e
  exact ⟨List.filter_eq_self.mpr q, fun i hi => of_decide_eq_true (q i hi)⟩
def R_going_on (ds : List Dt) (d : Dt) : Prop := ∃ (ways : List (Int × Int)) (nums order : List Int), ds = [LP ways, LI nums] ∧ Fwd order ways ∧ Valid ways nums ∧ d = LI []
theorem ok_going_on {f : Addr} {fd : FuncData} (F : Fun K "going_on" "going_on" s_going_on f fd) (T : Gb K mg N S) : FnOk P w K mg base CX0 1 f fd ["ways", "numbers"] (spD R_going_on) := by
  refine fn_dat F sc_going_on (by rintro _ _ ⟨_, _, _, rfl, _⟩; rfl) fun cdv A outer s H E hr ds d h => ?_
  obtain ⟨ways, nums, order, rfl, hf, hv, rfl⟩ := h
  refine ⟨_, (pss_cons (ps_set (i := 2) sc_going_on.nd rfl (.inl rfl) (pe_callTy (listK (K := K) rfl) (by rfl) T.list b_list (pa_cons (pv 1) pa_nil)))
      (pss_cons (ps_set (i := 3) sc_going_on.nd rfl (.inl rfl) (pe_op op_addA (pe_callB (lenK (K := K) rfl) (by rfl) T.len b_len (pa_cons (pv 2) pa_nil)) pe_int))
      (pss_cons (ps_while PassesOwn.never (pt_cmpR op_ltI (pe_callB (lenK (K := K) rfl) (by rfl) T.len b_len (pa_cons (pv 2) pa_nil)) (pv 3) (nomark _))
        (pss_cons (ps_set (i := 3) sc_going_on.nd rfl (.inl rfl) (pe_callB (lenK (K := K) rfl) (by rfl) T.len b_len (pa_cons (pv 2) pa_nil)))
        (pss_cons (ps_set (i := 4) sc_going_on.nd rfl (.inr rfl) (pe_lc (own := [("number", 5)]) rfl sc_going_on.nd (pi_any (pv 2)) (blkOk_by (own := [("number", 5)]) (N := nm_going_on) (sc := defScope s_going_on) (by decide +kernel)) (fun _ _ _ _ _ => (pg_name (i := 5) sc_going_on.nd rfl (.inl rfl))) (fun _ _ _ _ _ => pts_nil) (fun _ _ _ _ _ => (pe_ix (ixK (K := K) rfl) (pe_ix (ixK (K := K) rfl) (pv 0) (pv 5) (fun _ _ => rfl)) pe_int (fun _ _ => rfl)))))
        (pss_one (ps_setLc (i := 2) (own := [("number", 5)]) rfl sc_going_on.nd rfl rfl (sw_true rfl rfl rfl (by decide +kernel)) (pi_any (pv 2)) (blkOk_by (own := [("number", 5)]) (N := nm_going_on) (sc := defScope s_going_on) (by decide +kernel)) (fun _ _ _ _ _ => (pg_name (i := 5) sc_going_on.nd rfl (.inl rfl))) (fun _ _ _ _ _ => (pts_one (pt_cmpR (inK (K := K) rfl (Room.u65 hr)) (pe_ix (ixK (K := K) rfl) (pe_ix (ixK (K := K) rfl) (pv 0) (pv 5) (fun _ _ => rfl)) pe_int (fun _ _ => rfl)) (pv 4) (by rfl)))) (fun _ _ _ _ _ => (pv 5)))))))
      (pss_one (ps_ret (pv 2)))))), ?_⟩
  try dsimp only [L2.cxOf, L2.Cx.nox, L2.Cx.wish]
  refine blk_set (d := LI nums) (EvN.e (ev_list (Ev.to (ev_var (d := LI nums) rfl) rfl))) ?_
  refine blk_set (by walk_at "ev") ?_
  refine blk_while (α := List Int × Int) (fun a => Valid ways a.1 ∧ (a.2 = (a.1.length : Int) + 1 ∨ ∃ prev, Valid ways prev ∧ a.1 = gStep ways prev ∧ a.2 = (prev.length : Int))) (fun _ => noO)
    (fun a => [some (LP ways), some (LI nums), some (LI a.1), some (.int a.2), none, none]) (fun a => decide ((a.1.length : Int) < a.2)) (fun a => a.2.toNat) (nums, (nums.length : Int) + 1) ⟨hv, .inl rfl⟩ rfl (by walk_at "le") (fun a ha => by walk_at "ev") (fun a ha hc => ?_) fun a ha hc => ?_
  · have hc := of_decide_eq_true hc
    obtain ⟨hva, _⟩ := ha
    refine ⟨(gStep ways a.1, (a.1.length : Int)), ⟨gStep_valid hva, .inr ⟨a.1, hva, rfl, rfl⟩⟩, by show ((a.1.length : Int)).toNat < a.2.toNat; omega, ?_⟩
    have hvl := hva.2
    refine sds_set (d := .int (a.1.length : Int)) (by walk_at "ev") ?_
    refine sds_set (d := LI (starts ways a.1)) (EvN.e (EvN.to (evn_lc1 (xs := a.1) (f := Dt.int) (fun i => .int (wayAt ways i).1) (it_L (us := a.1) (ev_var rfl)) (fun j hj => nin (by
      rw [List.mem_singleton.mp hj]
      rfl)) (by omega) fun x hx => ?_) (by unfold starts; rw [List.map_map]; rfl))) ?_
    · obtain ⟨b1, b2⟩ := hva.1 x hx
      exact ⟨_, _, tg_name (nin rfl), fun j hj => hj, ev_fst (f := Dt.int) (g' := Dt.int) (p := wayAt ways x) (ev_ix (f := PR) (us := ways) (ev_var rfl) (by walk_at "ev") b1 (wayAt_get b1 b2))⟩
    refine sd1_set (LI (gStep ways a.1)) (EvN.e (evn_lc (xs := a.1) (f := Dt.int) (fun i => decide ((wayAt ways i).2 ∈ starts ways a.1)) Dt.int (it_L (us := a.1) (ev_var rfl)) (fun j hj => nin (by
      rw [List.mem_singleton.mp hj]
      rfl)) (by omega) fun x hx => ?_)) rfl (by walk_at "le")
    obtain ⟨b1, b2⟩ := hva.1 x hx
    exact ⟨_, _, tg_name (nin rfl), fun j hj => hj, et_test (Ev.b (ev_inI (n := (wayAt ways x).2) (ns := starts ways a.1) (Ev.b (ev_snd (f := Dt.int) (g' := Dt.int) (p := wayAt ways x) (ev_ix (f := PR) (us := ways) (ev_var rfl) (by walk_at "ev") b1 (wayAt_get b1 b2)))) (Ev.b (ev_var rfl)))), fun _ => ev_var rfl⟩
  · have hc := of_decide_eq_false hc
    obtain ⟨hva, h⟩ := ha
    have e : a.1 = [] := by
      rcases h with h | ⟨prev, hp, e1, e2⟩
      · omega
      · rw [e1] at hc
        obtain ⟨q1, q2⟩ := gStep_same (ways := ways) (left := prev) (by omega)
        rw [e1, q1]
        exact no_ring hf hp q2
    refine blk_ret (Ev.to (ev_var (d := LI a.1) rfl) (by rw [e]))
def R_ring_among (ds : List Dt) (d : Dt) : Prop := ∃ (ways : List (Int × Int)) (nums order : List Int), ds = [LP ways, LI nums] ∧ Fwd order ways ∧ Valid ways nums ∧ d = .non
theorem ok_ring_among {f : Addr} {fd : FuncData} (F : Fun K "ring_among" "ring_among" s_ring_among f fd) (T : Gb K mg N S) (c_going_on : Cal P w K mg base "going_on" ["ways", "numbers"] 1 (spD R_going_on)) : FnOk P w K mg base CX0 2 f fd ["ways", "numbers"] (spD R_ring_among) := by
  refine fn_dat F sc_ring_among (by rintro _ _ ⟨_, _, _, rfl, _⟩; rfl) fun cdv A outer s H E hr ds d h => ?_
  obtain ⟨ways, nums, order, rfl, hf, hv, rfl⟩ := h
  refine ⟨_, (pss_cons (ps_set (i := 2) sc_ring_among.nd rfl (.inl rfl) (pe_callC c_going_on (hr.mono (by decide)) (by rfl) (pa_cons (pv 0) (pa_cons (pv 1) pa_nil))))
      (pss_cons (ps_if (pt_cmpR (eqK (K := K) rfl hr.units) (pv 2) (pe_lst pa_nil) (nomark _))
        (pss_one (ps_ret pe_non))
        pss_nil)
      pss_never)), ?_⟩
  try dsimp only [L2.cxOf, L2.Cx.nox, L2.Cx.wish]
  refine blk_set (d := LI []) (ev_call (R := R_going_on) (by walk_at "ev") ⟨ways, nums, order, rfl, hf, hv, rfl⟩) ?_
  exact blk_ifr (c := true) (EvT.to (et_test (Ev.b (ev_eq (u := ([] : List Int)) (v := ([] : List Int)) (enc_L enc_int) (Ev.b (ev_var rfl)) (Ev.b (EvN.e (ev_lst ea_nil))) lay_ints lay_ints))) rfl) (fun _ => blk_ret ev_non) fun hc => by cases hc
def R_ring_left (N : Addr) (ds : List Dt) (d : Dt) : Prop := ∃ (names : List Str) (ps : List (Int × Int)) (k : Bool) (tl order : List Int), ds = [netD N names ps, Dl.S k .int tl] ∧ ps.length ≤ 24 ∧ TuOk ps.length tl ∧ Fwd order (goingOf ps tl) ∧ d = .non
theorem ok_ring_left {f : Addr} {fd : FuncData} (F : Fun K "ring_left" "ring_left" s_ring_left f fd) (T : Gb K mg N S) (c_want_turned : Cal P w K mg base "want_turned" ["net", "turned"] 2 (spD (R_want_turned N)))
    (c_as_they_go : Cal P w K mg base "as_they_go" ["net", "turned"] 2 (spN (R_as_they_go N))) (c_ring_among : Cal P w K mg base "ring_among" ["ways", "numbers"] 2 (spD R_ring_among)) : FnOk P w K mg base CX0 3 f fd ["net", "turned"] (spD (R_ring_left N)) := by
  refine fn_dat F sc_ring_left (by rintro _ _ ⟨_, _, _, _, _, rfl, _⟩; rfl) fun cdv A outer s H E hr ds d h => ?_
  obtain ⟨names, ps, k, tl, order, rfl, hlen, ht, hf, rfl⟩ := h
  refine ⟨_, (pss_cons (ps_expr (pe_callC c_want_turned (hr.mono (by decide)) (by rfl) (pa_cons (pv 0) (pa_cons (pv 1) pa_nil))))
      (pss_cons (ps_set (i := 2) sc_ring_left.nd rfl (.inl rfl) (pe_callC c_as_they_go (hr.mono (by decide)) (by rfl) (pa_cons (pv 0) (pa_cons (pv 1) pa_nil))))
      (pss_one (ps_ret (pe_callC c_ring_among (hr.mono (by decide)) (by rfl) (pa_cons (pv 2) (pa_cons (pe_listRg rfl (by rfl) T.list (prg_1 (by rfl) T.range (pe_callB (lenK (K := K) rfl) (by rfl) T.len b_len (pa_cons (pv 2) pa_nil)))) pa_nil))))))), ?_⟩
  try dsimp only [L2.cxOf, L2.Cx.nox, L2.Cx.wish]
  refine blk_seq (sd_drop (ev_call (R := R_want_turned N) (by walk_at "ev") ⟨names, ps, k, tl, rfl, ht, rfl⟩)) ?_
  refine blk_set (d := LP (goingOf ps tl)) (EvN.e (evn_call (RN := R_as_they_go N) (by walk_at "ev") ⟨names, ps, k, tl, rfl, hlen, rfl⟩)) ?_
  refine blk_ret (ev_call (R := R_ring_among) (ea_cons (ev_var rfl) (ea_cons (Ev.to (EvN.e (evn_rg1 (a := ((goingOf ps tl).length : Int)) (by walk_at "ev") (by omega) (by rw [going_len]; omega))) ?_) ea_nil)) ⟨goingOf ps tl, (List.range (goingOf ps tl).length).map fun i : Nat => (i : Int), order, rfl, hf, ⟨fun i hi => ?_, ?_⟩, rfl⟩)
  · show Dt.lst _ = Dt.lst _
    rw [Int.toNat_natCast, List.map_map]
    rfl
  · obtain ⟨j, hj, rfl⟩ := List.mem_map.mp hi
    have := List.mem_range.mp hj
    omega
  · rw [List.length_map, List.length_range, going_len]
    exact hlen

/-! ### rows that are down -/
def R_steps_of (N : Addr) (ds es : List Dt) : Prop := ∃ (names : List Str) (ps : List (Int × Int)) (k : Bool) (tl order : List Int), ds = [netD N names ps, Dl.S k .int tl] ∧ ps.length ≤ 24 ∧ TuOk ps.length tl ∧ Fwd order (goingOf ps tl) ∧ es = (goingOf ps tl).map PR
theorem ok_steps_of {f : Addr} {fd : FuncData} (F : Fun K "steps_of" "steps_of" s_steps_of f fd) (T : Gb K mg N S) (m_arrows : CalM P w K mg base N "arrows" ["self"] 1 (spN (R_Net_arrows N))) (c_ring_left : Cal P w K mg base "ring_left" ["net", "turned"] 3 (spD (R_ring_left N))) :
    FnOk P w K mg base CX0 4 f fd ["net", "turned"] (spN (R_steps_of N)) := by
  refine fn_new F sc_steps_of (by rintro _ _ ⟨_, _, _, _, _, rfl, _⟩; rfl) fun cdv A outer s H E hr ds d h => ?_
  obtain ⟨names, ps, k, turned, order, rfl, hlen, ht, hf, rfl⟩ := h
  refine ⟨_, (pss_cons (ps_set (i := 2) sc_steps_of.nd rfl (.inl rfl) (pe_callC c_ring_left (hr.mono (by decide)) (by rfl) (pa_cons (pv 0) (pa_cons (pv 1) pa_nil))))
      (pss_cons (ps_if (pt_cmpR op_notN1 (pv 2) pe_non (nomark _))
        (pss_one ps_never)
        pss_nil)
      (pss_cons (ps_set (i := 3) sc_steps_of.nd rfl (.inl rfl) (pe_lst pa_nil))
      (pss_cons (ps_for PassesOwn.never rfl (pi_enumA (by rfl) T.enumerate (pa_cons (pe_methC0 m_arrows T.clN (hr.mono (by decide)) (pv 0)) pa_nil)) (pg_tupK (K := K) (n := 2) rfl rfl (pgs_cons (pg_name (i := 4) sc_steps_of.nd rfl (.inl rfl)) (pgs_cons (pg_tupK (K := K) (n := 2) rfl rfl (pgs_cons (pg_name (i := 5) sc_steps_of.nd rfl (.inl rfl)) (pgs_cons (pg_name (i := 6) sc_steps_of.nd rfl (.inl rfl)) pgs_nil))) pgs_nil)))
        (pss_one (ps_if (pt_cmpR (inK (K := K) rfl (Room.u65 hr)) (pv 4) (pv 1) (by rfl))
          (pss_one (ps_expr (pe_bmK (K := K) rfl PySem.F.plainAttrs_list PySem.F.slot_list_append PySem.F.type_list_append mt_append (pv 3) (pa_cons (pe_tup (pa_cons (pv 6) (pa_cons (pv 5) pa_nil))) pa_nil))))
          (pss_one (ps_expr (pe_bmK (K := K) rfl PySem.F.plainAttrs_list PySem.F.slot_list_append PySem.F.type_list_append mt_append (pv 3) (pa_cons (pe_tup (pa_cons (pv 5) (pa_cons (pv 6) pa_nil))) pa_nil)))))))
      (pss_one (ps_ret (pv 3))))))), ?_⟩
  try dsimp only [L2.cxOf, L2.Cx.nox, L2.Cx.wish]
  refine blk_set (d := .non) (ev_call (R := R_ring_left N) (by walk_at "ev") ⟨names, ps, k, turned, order, rfl, hlen, ht, hf, rfl⟩) ?_
  refine blk_ifr (c := false) (et_notN (d := .non) (Ev.b (ev_var rfl)) false rfl) (fun hc => by cases hc) fun _ => ?_
  refine blk_new (ev_lst ea_nil) ?_
  have e : goingOf ps turned = (enumL ps).foldl (fun s x => s ++ [goWay turned x]) [] := by
    rw [fold_app]
    rfl
  rw [e]
  refine blk_seq (sd_fold (fun s x => s ++ [goWay turned x]) [] (fun s => ol 3 (s.map PR)) (fun s => [some (netD N names ps), some (Dl.S k .int turned), none, none, none, none, none]) (it_enumL (us := ps) (EvN.e (evn_arrows (ev_var rfl)))) rfl (by walk_at "le") ?_) blk_retO
  intro i x hx s hs
  have hl : s.length < 100000 := by
    rw [hs, fold_app, List.length_append, List.length_map, List.length_take, enumL_length]
    show 0 + _ < _
    omega
  refine ⟨_, _, tg_pair (tg_name (nin rfl)) (tg_pair (tg_name (nin rfl)) (tg_name (nin rfl))), ?_⟩
  refine sd_if (et_test (Ev.b (ev_inIS (n := (x.1 : Int)) (ns := turned) (k := k) (by walk_at "ev") (Ev.b (ev_var rfl))))) (fun hc => ?_) fun hc => ?_
  · have eg : goWay turned x = (x.2.2, x.2.1) := if_pos (of_decide_eq_true hc)
    exact sd1_app (d := PR (x.2.2, x.2.1)) (ev_pair (f := Dt.int) (g' := Dt.int) (ev_var rfl) (ev_var rfl)) (by rw [eg, List.map_append]; rfl) (by walk_at "le") (by rw [List.length_map]; exact hl)
  · have eg : goWay turned x = x.2 := if_neg (of_decide_eq_false hc)
    exact sd1_app (d := PR x.2) (ev_pair (f := Dt.int) (g' := Dt.int) (u := x.2.1) (v := x.2.2) (ev_var rfl) (ev_var rfl)) (by rw [eg, List.map_append]; rfl) (by walk_at "le") (by rw [List.length_map]; exact hl)
def R_are_rows (N : Addr) (ds : List Dt) (d : Dt) : Prop := ∃ (names : List Str) (ps : List (Int × Int)) (k : Bool) (rows : List Int), ds = [netD N names ps, Dl.S k .int rows] ∧ rows.length = names.length ∧ rows.length ≤ 12 ∧ (∀ r ∈ rows, 0 ≤ r ∧ r ≤ 11) ∧ d = .bl true
theorem all_true {α : Type} : ∀ l : List α, (l.map fun _ => true).all id = true
  | [] => rfl
  | _ :: l => all_true l
theorem ok_are_rows {f : Addr} {fd : FuncData} (F : Fun K "are_rows" "are_rows" s_are_rows f fd) (T : Gb K mg N S) (m_many : CalM P w K mg base N "many" ["self"] 1 (spD (R_Net_many N))) : FnOk P w K mg base CX0 2 f fd ["net", "rows"] (spD (R_are_rows N)) := by
  refine fn_dat F sc_are_rows (by rintro _ _ ⟨_, _, _, _, rfl, _⟩; rfl) fun cdv A outer s H E hr ds d h => ?_
  obtain ⟨names, ps, k, rows, rfl, h1, h2, h3, rfl⟩ := h
  refine ⟨_, (pss_one (ps_ret (pe_and (pe_cmpR (eqK (K := K) rfl hr.units) (pe_callB (lenK (K := K) rfl) (by rfl) T.len b_len (pa_cons (pv 1) pa_nil)) (pe_methC0 m_many T.clN (hr.mono (by decide)) (pv 0)) (nomark _)) (pe_one (pe_callB (allK (K := K) rfl rfl) (by rfl) T.all b_all (pa_cons (pe_lc (own := [("row", 2)]) rfl sc_are_rows.nd (pi_any (pv 1)) (blkOk_by (own := [("row", 2)]) (N := nm_are_rows) (sc := defScope s_are_rows) (by decide +kernel)) (fun _ _ _ _ _ => (pg_name (i := 2) sc_are_rows.nd rfl (.inl rfl))) (fun _ _ _ _ _ => pts_nil) (fun _ _ _ _ _ => (pe_and (pe_cmpR op_leI pe_int (pv 2) (nomark _)) (pe_one (pe_cmpR op_leI (pv 2) (pe_globI T.cLast rfl) (nomark _)))))) pa_nil)))))), ?_⟩
  try dsimp only [L2.cxOf, L2.Cx.nox, L2.Cx.wish]
  refine blk_ret (Ev.to (ev_and (a := true) (b := true) (EvB.to (Ev.b (ev_eq (u := (rows.length : Int)) (v := (names.length : Int)) enc_int (Ev.b (ev_lenK (k := k) (f := Dt.int) (us := rows) (Ev.b (ev_var rfl)))) (Ev.b (ev_many (ev_var rfl))) lay_int lay_int)) (by rw [dec_t (by omega)])) fun _ =>
    EvB.to (Ev.b (ev_all (bs := rows.map fun _ => true) (Ev.b (EvN.e (EvN.to (evn_lc1 (xs := rows) (f := Dt.int) (fun _ => .bl true) (it_S (k := k) (us := rows) (ev_var rfl)) (fun j hj => nin (by
      rw [List.mem_singleton.mp hj]
      rfl)) (by omega) fun c hc => ⟨_, _, tg_name (nin rfl), fun j hj => hj, ?_⟩) (by rw [List.map_map]; rfl)))))) (by rw [all_true])) rfl)
  obtain ⟨b1, b2⟩ := h3 c hc
  exact Ev.to (ev_and (a := true) (b := true) (EvB.to (Ev.b (ev_le (a := 0) (b := c) (by walk_at "ev") (by walk_at "ev"))) (by rw [dec_t b1])) fun _ => EvB.to (Ev.b (ev_le (a := c) (b := 11) (by walk_at "ev") (by walk_at "ev"))) (by rw [dec_t b2])) rfl
def R_is_down (N : Addr) (ds : List Dt) (d : Dt) : Prop := ∃ (names : List Str) (ps : List (Int × Int)) (k k2 : Bool) (tl order rows : List Int), ds = [netD N names ps, Dl.S k .int tl, Dl.S k2 .int rows] ∧ ps.length ≤ 24 ∧ TuOk ps.length tl ∧ Fwd order (goingOf ps tl) ∧
  rows.length = names.length ∧ rows.length ≤ 12 ∧ (∀ r ∈ rows, 0 ≤ r ∧ r ≤ 11) ∧ EndsIn rows.length (goingOf ps tl) ∧ (∀ p ∈ goingOf ps tl, at_ rows p.1 < at_ rows p.2) ∧ d = .bl true
theorem ok_is_down {f : Addr} {fd : FuncData} (F : Fun K "is_down" "is_down" s_is_down f fd) (T : Gb K mg N S) (c_steps_of : Cal P w K mg base "steps_of" ["net", "turned"] 4 (spN (R_steps_of N))) (c_are_rows : Cal P w K mg base "are_rows" ["net", "rows"] 2 (spD (R_are_rows N))) :
    FnOk P w K mg base CX0 5 f fd ["net", "turned", "rows"] (spD (R_is_down N)) := by
  refine fn_dat F sc_is_down (by rintro _ _ ⟨_, _, _, _, _, _, _, rfl, _⟩; rfl) fun cdv A outer s H E hr ds d h => ?_
  obtain ⟨names, ps, k, k2, turned, order, rows, rfl, hlen, ht, hf, h1, h2, h3, he, hd, rfl⟩ := h
  refine ⟨_, (pss_cons (ps_try_thru0 (pss_one (ps_set (i := 3) sc_is_down.nd rfl (.inl rfl) (pe_callC c_steps_of (hr.mono (by decide)) (by rfl) (pa_cons (pv 0) (pa_cons (pv 1) pa_nil))))))
      (pss_one (ps_ret (pe_and (pe_callC c_are_rows (hr.mono (by decide)) (by rfl) (pa_cons (pv 0) (pa_cons (pv 2) pa_nil))) (pe_one (pe_callB (allK (K := K) rfl rfl) (by rfl) T.all b_all (pa_cons (pe_lc (own := [("a", 4), ("b", 5)]) rfl sc_is_down.nd (pi_any (pv 3)) (blkOk_by (own := [("a", 4), ("b", 5)]) (N := nm_is_down) (sc := defScope s_is_down) (by decide +kernel)) (fun _ _ _ _ _ => (pg_tupK (K := K) (n := 2) rfl rfl (pgs_cons (pg_name (i := 4) sc_is_down.nd rfl (.inl rfl)) (pgs_cons (pg_name (i := 5) sc_is_down.nd rfl (.inl rfl)) pgs_nil)))) (fun _ _ _ _ _ => pts_nil) (fun _ _ _ _ _ => (pe_cmpR op_ltI (pe_ix (ixK (K := K) rfl) (pv 2) (pv 4) (fun _ _ => rfl)) (pe_ix (ixK (K := K) rfl) (pv 2) (pv 5) (fun _ _ => rfl)) (nomark _)))) pa_nil))))))), ?_⟩
  try dsimp only [L2.cxOf, L2.Cx.nox, L2.Cx.wish]
  refine blk_set (d := LP (goingOf ps turned)) (EvN.e (evn_call (RN := R_steps_of N) (by walk_at "ev") ⟨names, ps, k, turned, order, rfl, hlen, ht, hf, rfl⟩)) ?_
  refine blk_ret (Ev.to (ev_and (a := true) (b := true) (Ev.b (ev_call (R := R_are_rows N) (by walk_at "ev") ⟨names, ps, k2, rows, rfl, h1, h2, h3, rfl⟩)) fun _ =>
    EvB.to (Ev.b (ev_all (bs := (goingOf ps turned).map fun _ => true) (Ev.b (EvN.e (EvN.to (evn_lc1 (xs := goingOf ps turned) (f := PR) (fun _ => .bl true) (it_L (us := goingOf ps turned) (ev_var rfl)) (fun j hj => nin (by
      rcases List.mem_cons.mp hj with rfl | hj
      · rfl
      · rw [List.mem_singleton.mp hj]; rfl)) (by rw [going_len]; omega) fun c hc => ⟨_, _, tg_pair (tg_name (nin rfl)) (tg_name (nin rfl)), fun j hj => hj, ?_⟩) (by rw [List.map_map]; rfl)))))) (by rw [all_true])) rfl)
  obtain ⟨a1, a2, a3, a4⟩ := he c hc
  exact Ev.to (ev_lt (a := at_ rows c.1) (b := at_ rows c.2) (Ev.b (ev_ixIS (k := k2) (us := rows) (ev_var rfl) (by walk_at "ev") a1 (at_get a1 a2))) (Ev.b (ev_ixIS (k := k2) (us := rows) (ev_var rfl) (by walk_at "ev") a3 (at_get a3 a4)))) (by rw [dec_t (hd c hc)])
def R_ends_of (ds : List Dt) (d : Dt) : Prop := ∃ (p : Int × Int) (b : Bool), ds = [PR p, .bl b] ∧ d = PR (if b = true then (p.2, p.1) else p)
theorem ok_ends_of {f : Addr} {fd : FuncData} (F : Fun K "ends_of" "ends_of" s_ends_of f fd) (T : Gb K mg N S) : FnOk P w K mg base CX0 1 f fd ["arrow", "is_turned"] (spD R_ends_of) := by
  refine fn_dat F sc_ends_of (by rintro _ _ ⟨_, _, rfl, _⟩; rfl) fun cdv A outer s H E hr ds d h => ?_
  obtain ⟨p, b, rfl, rfl⟩ := h
  refine ⟨_, (pss_cons (ps_if (pt_val (pv 1))
        (pss_one (ps_ret (pe_tup (pa_cons (pe_ix (ixK (K := K) rfl) (pv 0) pe_int (fun _ _ => rfl)) (pa_cons (pe_ix (ixK (K := K) rfl) (pv 0) pe_int (fun _ _ => rfl)) pa_nil)))))
        pss_nil)
      (pss_one (ps_ret (pv 0)))), ?_⟩
  try dsimp only [L2.cxOf, L2.Cx.nox, L2.Cx.wish]
  refine blk_ifr (c := b) (et_B (Ev.b (ev_var rfl))) (fun hc => ?_) fun hc => ?_
  · rw [hc, if_pos rfl]
    exact blk_ret (ev_pair (f := Dt.int) (g' := Dt.int) (ev_snd (f := Dt.int) (g' := Dt.int) (p := p) (ev_var rfl)) (ev_fst (f := Dt.int) (g' := Dt.int) (p := p) (ev_var rfl)))
  · rw [hc, if_neg Bool.false_ne_true]
    exact blk_ret (ev_var rfl)

end
end Dl

namespace Dl
open PySem L2
local macro_rules | `(tactic| walk_at "le") => `(tactic| repeat (first | exact LeE.nil | refine LeE.keep ?_ | refine LeE.drop ?_))
local macro_rules | `(tactic| walk_at "e") => `(tactic| first
  | (with_reducible apply Ev.b); walk_at "e"
  | (with_reducible apply ev_var); exact rfl
  | with_reducible apply ev_int
  | with_reducible apply ev_str
  | with_reducible apply ev_bl
  | with_reducible apply ev_non
  | with_reducible apply evb_own
  | ((with_reducible apply ev_add) <;> walk_at "e")
  | ((with_reducible apply ev_sub) <;> walk_at "e")
  | ((with_reducible apply ev_mod) <;> first | walk_at "e" | skip)
  | ((with_reducible apply ev_div) <;> first | walk_at "e" | skip)
  | ((with_reducible apply ev_mul) <;> first | walk_at "e" | skip)
  | ((with_reducible apply ev_pow) <;> first | walk_at "e" | skip)
  | ((with_reducible apply ev_lt) <;> walk_at "e")
  | ((with_reducible apply ev_le) <;> walk_at "e")
  | ((with_reducible apply ev_gt) <;> walk_at "e")
  | ((with_reducible apply ev_ge) <;> walk_at "e")
  | ((with_reducible apply ev_len) <;> walk_at "e")
  | ((with_reducible apply ev_lenR) <;> walk_at "e")
  | with_reducible apply ea_nil
  | with_reducible apply eb_nil
  | ((with_reducible apply ea_cons) <;> walk_at "e")
  | ((with_reducible apply eb_cons) <;> walk_at "e")
  | ((with_reducible apply et_test) <;> walk_at "e")
  | ((with_reducible apply et_B) <;> walk_at "e"))
local macro_rules | `(tactic| walk_at "ev") => `(tactic| (walk_at "e" <;> first | done | decide | omega | assumption | exact cmul_l (by decide) (by decide) | exact cmul_r (by decide) (by decide) | exact cpow_mk (by decide) (by decide) (by decide) | exact cdiv_mk (by decide) (by decide)))
section
variable {P : Program} {w : World} {K : PySem.W.Frag} {mg : Str → Option Value} {base : Heap} {N S : Addr}
/-! ### a sheet's data -/
abbrev fN : Str := Str.ofString "drawn_net"
abbrev fT : Str := Str.ofString "turned_arrows"
abbrev fR : Str := Str.ofString "node_rows"
abbrev fA : Str := Str.ofString "node_arrows"
abbrev fW : Str := Str.ofString "ways"
theorem lkn {β : Type} {n m : Str} {x : β} {l : List (Str × β)} (h : (n == m) = false) : ((m, x) :: l).lookup n = l.lookup n := by rw [List.lookup_cons, h]
theorem lks {β : Type} {n : Str} {x : β} {l : List (Str × β)} : ((n, x) :: l).lookup n = some x := by rw [List.lookup_cons, beq_self_eq_true]
theorem b_TN : (fT == fN) = false := by decide +kernel
theorem b_RN : (fR == fN) = false := by decide +kernel
theorem b_RT : (fR == fT) = false := by decide +kernel
theorem b_AN : (fA == fN) = false := by decide +kernel
theorem b_AT : (fA == fT) = false := by decide +kernel
theorem b_AR : (fA == fR) = false := by decide +kernel
theorem b_WN : (fW == fN) = false := by decide +kernel
theorem b_WT : (fW == fT) = false := by decide +kernel
theorem b_WR : (fW == fR) = false := by decide +kernel
theorem b_WA : (fW == fA) = false := by decide +kernel
def fr2 (x y : Dt) : List (Str × Dt) := [(fN, x), (fT, y)]
def os3 (a b c : List Dt) : List (Str × List Dt) := [(fR, a), (fA, b), (fW, c)]
section
variable {a b c e : List Dt} {x y : Dt}
theorem o3R : (os3 a b c).lookup fR = some a := lks
theorem o3A : (os3 a b c).lookup fA = some b := (lkn b_AR).trans lks
theorem o3W : (os3 a b c).lookup fW = some c := (lkn b_WR).trans ((lkn b_WA).trans lks)
theorem o3no {m : Str} (h1 : (m == fR) = false) (h2 : (m == fA) = false) (h3 : (m == fW) = false) : (os3 a b c).lookup m = none := (lkn h1).trans ((lkn h2).trans ((lkn h3).trans rfl))
theorem pt3R : putL fR e (os3 a b c) = os3 e b c := by
  unfold os3 putL
  rw [if_pos (beq_self_eq_true fR)]
theorem pt3A : putL fA e (os3 a b c) = os3 a e c := by
  unfold os3 putL
  rw [if_neg (by rw [b_AR]; exact Bool.false_ne_true)]
  unfold putL
  rw [if_pos (beq_self_eq_true fA)]
theorem pt3W : putL fW e (os3 a b c) = os3 a b e := by
  unfold os3 putL
  rw [if_neg (by rw [b_WR]; exact Bool.false_ne_true)]
  unfold putL
  rw [if_neg (by rw [b_WA]; exact Bool.false_ne_true)]
  unfold putL
  rw [if_pos (beq_self_eq_true fW)]
theorem f2N : (fr2 x y).lookup fN = some x := lks
theorem f2T : (fr2 x y).lookup fT = some y := (lkn b_TN).trans lks
theorem f2no {m : Str} (h1 : (m == fN) = false) (h2 : (m == fT) = false) : (fr2 x y).lookup m = none := (lkn h1).trans ((lkn h2).trans rfl)
end
def shF (net : Dt) (tu nr : List Int) (na : List (Option Int)) (wy : List (List Int)) : List (Str × Dt) := [(fN, net), (fT, LI tu), (fR, LI nr), (fA, L O na), (fW, L LI wy)]
abbrev shD (C : Addr) (net : Dt) (tu nr : List Int) (na : List (Option Int)) (wy : List (List Int)) : Dt := .obj C (shF net tu nr na wy)
section
variable {net : Dt} {tu nr : List Int} {na : List (Option Int)} {wy : List (List Int)}
theorem s1 : (shF net tu nr na wy).lookup fN = some net := lks
theorem s2 : (shF net tu nr na wy).lookup fT = some (LI tu) := (lkn b_TN).trans lks
theorem s3 : (shF net tu nr na wy).lookup fR = some (LI nr) := (lkn b_RN).trans ((lkn b_RT).trans lks)
theorem s4 : (shF net tu nr na wy).lookup fA = some (L O na) := (lkn b_AN).trans ((lkn b_AT).trans ((lkn b_AR).trans lks))
theorem s5 : (shF net tu nr na wy).lookup fW = some (L LI wy) := (lkn b_WN).trans ((lkn b_WT).trans ((lkn b_WR).trans ((lkn b_WA).trans lks)))
theorem s_no {m : Str} (h1 : (m == fN) = false) (h2 : (m == fT) = false) (h3 : (m == fR) = false) (h4 : (m == fA) = false) (h5 : (m == fW) = false) : (shF net tu nr na wy).lookup m = none := (lkn h1).trans ((lkn h2).trans ((lkn h3).trans ((lkn h4).trans ((lkn h5).trans rfl))))
end

/-! ### an arrow that is bent -/
theorem sd_forN {o : Ow} {en : En} {g : TG} {wi : TI} {tb : TS} {items : List Dt} {n : Nat} (hi : Itd wi o en items) (hn : items.length = n) (oi : Nat → Ow) (ei : Nat → En) (h0 : oi 0 = o) (e0 : LeE (ei 0) en)
    (body : ∀ i d, items[i]? = some d → ∃ en1 js, Tg g d (oi i) (ei i) en1 js ∧ Sd tb (oi i) en1 (oi (i + 1)) (ei (i + 1))) : Sd (tFor wi g tb) o en (oi n) (ei n) := hn ▸ sd_for hi oi ei h0 e0 body
def bRows (nr : List Int) (p : Int × Int) (i : Nat) : List Int := nr ++ (List.range i).map fun k : Nat => at_ nr p.1 + 1 + (k : Int)
def bFound (nr : List Int) (p : Int × Int) (i : Nat) : List Int := [p.1] ++ (List.range i).map fun k : Nat => (nr.length : Int) + (k : Int)
def bArs (na : List (Option Int)) (num : Int) (i : Nat) : List (Option Int) := na ++ List.replicate i (some num)
theorem bRows_s (nr : List Int) (p : Int × Int) (i : Nat) : bRows nr p (i + 1) = bRows nr p i ++ [at_ nr p.1 + 1 + (i : Int)] := by
  unfold bRows
  rw [List.range_succ, List.map_append, ← List.append_assoc]
  rfl
theorem bFound_s (nr : List Int) (p : Int × Int) (i : Nat) : bFound nr p (i + 1) = bFound nr p i ++ [(nr.length : Int) + (i : Int)] := by
  unfold bFound
  rw [List.range_succ, List.map_append, ← List.append_assoc]
  rfl
theorem bArs_s (na : List (Option Int)) (num : Int) (i : Nat) : bArs na num (i + 1) = bArs na num i ++ [some num] := by
  unfold bArs
  rw [List.replicate_succ', ← List.append_assoc]
theorem bRows_len (nr : List Int) (p : Int × Int) (i : Nat) : (bRows nr p i).length = nr.length + i := by
  unfold bRows
  rw [List.length_append, List.length_map, List.length_range]
theorem bFound_len (nr : List Int) (p : Int × Int) (i : Nat) : (bFound nr p i).length = 1 + i := by
  unfold bFound
  rw [List.length_append, List.length_map, List.length_range]
  rfl
theorem bArs_len (na : List (Option Int)) (num : Int) (i : Nat) : (bArs na num i).length = na.length + i := by
  unfold bArs
  rw [List.length_append, List.length_replicate]
def R_bent (ds : List Dt) (fro : List (Str × Dt)) (os os' : List (Str × List Dt)) (d : Dt) : Prop := ∃ (num : Int) (p : Int × Int) (nr : List Int) (na : List (Option Int)) (wy : List Dt), ds = [.int num, .int p.1, .int p.2] ∧
  fro.lookup fR = none ∧ fro.lookup fA = none ∧ os = os3 (nr.map .int) (na.map O) wy ∧ (0 ≤ p.1 ∧ p.1 < (nr.length : Int) ∧ 0 ≤ p.2 ∧ p.2 < (nr.length : Int)) ∧ (0 ≤ at_ nr p.1 ∧ at_ nr p.1 < at_ nr p.2 ∧ at_ nr p.2 ≤ 11) ∧ nr.length ≤ 1000 ∧ na.length ≤ 1000 ∧
  os' = os3 ((bRows nr p (gap nr p)).map .int) ((bArs na num (gap nr p)).map O) wy ∧ d = LI (wayOf nr (nr.length : Int) p)
theorem ok_Sheet_bent {f : Addr} {fd : FuncData} (F : Fun K "bent" "Sheet.bent" s_Sheet_bent f fd) (T : Gb K mg N S) : FnOk P w K mg base CX0 1 f fd ["self", "number", "upper", "lower"] (spBent S R_bent) := by
  refine fn_bent F sc_Sheet_bent (by rintro _ _ _ _ _ ⟨_, _, _, _, _, rfl, _⟩; rfl) fun cdv A outer s H E hr p fq ds fro os os' d h => ?_
  obtain ⟨num, q, nr, na, wy, rfl, e1, e2, rfl, ⟨a1, a2, a3, a4⟩, ⟨c1, c2, c3⟩, l1, l2, rfl, rfl⟩ := h
  have hg : (at_ nr q.2 - (at_ nr q.1 + 1)).toNat = gap nr q := by
    unfold gap
    omega
  have hg10 : gap nr q ≤ 10 := by
    rw [← hg]
    omega
  refine ⟨_, (pss_cons (ps_set (i := 4) sc_Sheet_bent.nd rfl (.inl rfl) (pe_lst (pa_cons (pv 2) pa_nil)))
      (pss_cons (ps_for PassesOwn.never rfl (pi_range2 (by rfl) T.range (pa_cons (pe_op op_addA (pe_ix (ixK (K := K) rfl) (pe_fld (pv 0) rfl) (pv 2) (fun _ _ => rfl)) pe_int) (pa_cons (pe_ix (ixK (K := K) rfl) (pe_fld (pv 0) rfl) (pv 3) (fun _ _ => rfl)) pa_nil))) (pg_name (i := 5) sc_Sheet_bent.nd rfl (.inl rfl))
        (pss_cons (ps_expr (pe_bmK (K := K) rfl PySem.F.plainAttrs_list PySem.F.slot_list_append PySem.F.type_list_append mt_append (pv 4) (pa_cons (pe_callB (lenK (K := K) rfl) (by rfl) T.len b_len (pa_cons (pe_fld (pv 0) rfl) pa_nil)) pa_nil)))
        (pss_cons (ps_expr (pe_bmK (K := K) rfl PySem.F.plainAttrs_list PySem.F.slot_list_append PySem.F.type_list_append mt_append (pe_fld (pv 0) rfl) (pa_cons (pv 5) pa_nil)))
        (pss_one (ps_expr (pe_bmK (K := K) rfl PySem.F.plainAttrs_list PySem.F.slot_list_append PySem.F.type_list_append mt_append (pe_fld (pv 0) rfl) (pa_cons (pv 1) pa_nil)))))))
      (pss_one (ps_ret (pe_op op_addA (pv 4) (pe_lst (pa_cons (pv 3) pa_nil))))))), ?_⟩
  try dsimp only [L2.cxOf, L2.Cx.nox, L2.Cx.wish]
  refine ⟨⟨false, p, S, [], fro, os3 ((bRows nr q (gap nr q)).map .int) ((bArs na num (gap nr q)).map O) wy, some ((bFound nr q (gap nr q)).map .int), some fq⟩, [none, some (.int num), some (.int q.1), some (.int q.2), none, none], rfl, rfl, ?_⟩
  refine bo_seq (sd_fnew (ds := [.int q.1]) (ev_lst (ea_cons (ev_var rfl) ea_nil)) rfl rfl (by show 4 < 6; decide)) ?_
  refine bo_seq (o1 := osh ⟨false, p, S, [], fro, os3 ((bRows nr q (gap nr q)).map .int) ((bArs na num (gap nr q)).map O) wy, some ((bFound nr q (gap nr q)).map .int), some fq⟩) (en1 := [none, some (.int num), some (.int q.1), some (.int q.2), none, none]) ?_ ?_
  · refine sd_forN (n := gap nr q) (it_rng2 (a := at_ nr q.1 + 1) (b := at_ nr q.2) (Ev.b (ev_add (evb_ix (f := Dt.int) (us := nr) (evb_sown T.clS T.sRows e1 o3R) (Ev.b (ev_var rfl)) a1 (at_get a1 a2)) (Ev.b ev_int))) (evb_ix (f := Dt.int) (us := nr) (evb_sown T.clS T.sRows e1 o3R) (Ev.b (ev_var rfl)) a3 (at_get a3 a4)) (by omega) (by omega) (by omega) (by omega)) (by rw [List.length_map, List.length_range, hg])
      (fun i => osh ⟨false, p, S, [], fro, os3 ((bRows nr q i).map .int) ((bArs na num i).map O) wy, some ((bFound nr q i).map .int), some fq⟩) (fun _ => [none, some (.int num), some (.int q.1), some (.int q.2), none, none]) ?_ ?_ ?_
    · show osh ⟨false, p, S, [], fro, os3 ((nr ++ []).map .int) ((na ++ []).map O) wy, some (([q.1] ++ []).map .int), some fq⟩ = _
      rw [List.append_nil, List.append_nil]
      rfl
    · walk_at "le"
    · intro i d hd
      rw [List.getElem?_map] at hd
      cases hx : (List.range (at_ nr q.2 - (at_ nr q.1 + 1)).toNat)[i]? with
      | none => rw [hx] at hd; cases hd
      | some x =>
        rw [hx] at hd
        cases hd
        obtain ⟨hi, rfl⟩ := get_range hx
        rw [hg] at hi
        refine ⟨_, _, tg_name (nin rfl), ?_⟩
        refine Sd.weak (Sd.to (sd_seq (sd_fapp (d := .int ((nr.length : Int) + (x : Int))) (Ev.to (ev_len (f := Dt.int) (us := bRows nr q x) (evb_sown T.clS T.sRows e1 o3R)) (by rw [bRows_len]; rfl)) rfl (by rw [List.length_map, bFound_len]; omega))
          (sd_seq (sd_sapp (d := .int (at_ nr q.1 + 1 + (x : Int))) (ev_var rfl) T.clS T.sRows e1 o3R (by rw [List.length_map, bRows_len]; omega)) (sd_sapp (d := .int num) (ds := (bArs na num x).map O) (ev_var rfl) T.clS T.sArrows e2 ?_ (by rw [List.length_map, bArs_len]; omega)))) ?_) (by walk_at "le")
        · exact (congrArg (List.lookup fA) (pt3R (a := (bRows nr q x).map .int))).trans o3A
        · refine Eq.trans (congrArg (fun os => osh ⟨false, p, S, [], fro, os, some ((bFound nr q x).map .int ++ [.int ((nr.length : Int) + (x : Int))]), some fq⟩) ((congrArg (putL fA ((bArs na num x).map O ++ [.int num])) (pt3R (a := (bRows nr q x).map .int) (e := (bRows nr q x).map .int ++ [.int (at_ nr q.1 + 1 + (x : Int))]))).trans (pt3A (b := (bArs na num x).map O)))) ?_
          rw [bRows_s, bFound_s, bArs_s, List.map_append, List.map_append, List.map_append]
          rfl
  · refine bo_ret (Ev.to (EvN.e (evn_catB (xs := (bFound nr q (gap nr q)).map .int) (ys := [.int q.2]) (evb_fo rfl) (Ev.b (EvN.e (ev_lst (ea_cons (ev_var rfl) ea_nil)))) (flat_map (fun _ => rfl) _) rfl (by rw [List.length_map, bFound_len]; show 1 + _ + 1 ≤ 1000; omega))) ?_)
    unfold wayOf bFound
    show Dt.lst _ = Dt.lst (List.map Dt.int _)
    simp only [List.map_append]
    rfl

end
end Dl

namespace Dl
open PySem L2
local macro_rules | `(tactic| walk_at "le") => `(tactic| repeat (first | exact LeE.nil | refine LeE.keep ?_ | refine LeE.drop ?_))
local macro_rules | `(tactic| walk_at "e") => `(tactic| first
  | (with_reducible apply Ev.b); walk_at "e"
  | (with_reducible apply ev_var); exact rfl
  | with_reducible apply ev_int
  | with_reducible apply ev_str
  | with_reducible apply ev_bl
  | with_reducible apply ev_non
  | with_reducible apply evb_own
  | ((with_reducible apply ev_add) <;> walk_at "e")
  | ((with_reducible apply ev_sub) <;> walk_at "e")
  | ((with_reducible apply ev_mod) <;> first | walk_at "e" | skip)
  | ((with_reducible apply ev_div) <;> first | walk_at "e" | skip)
  | ((with_reducible apply ev_mul) <;> first | walk_at "e" | skip)
  | ((with_reducible apply ev_pow) <;> first | walk_at "e" | skip)
  | ((with_reducible apply ev_lt) <;> walk_at "e")
  | ((with_reducible apply ev_le) <;> walk_at "e")
  | ((with_reducible apply ev_gt) <;> walk_at "e")
  | ((with_reducible apply ev_ge) <;> walk_at "e")
  | ((with_reducible apply ev_len) <;> walk_at "e")
  | ((with_reducible apply ev_lenR) <;> walk_at "e")
  | with_reducible apply ea_nil
  | with_reducible apply eb_nil
  | ((with_reducible apply ea_cons) <;> walk_at "e")
  | ((with_reducible apply eb_cons) <;> walk_at "e")
  | ((with_reducible apply et_test) <;> walk_at "e")
  | ((with_reducible apply et_B) <;> walk_at "e"))
local macro_rules | `(tactic| walk_at "ev") => `(tactic| (walk_at "e" <;> first | done | decide | omega | assumption | exact cmul_l (by decide) (by decide) | exact cmul_r (by decide) (by decide) | exact cpow_mk (by decide) (by decide) (by decide) | exact cdiv_mk (by decide) (by decide)))
section
variable {P : Program} {w : World} {K : PySem.W.Frag} {mg : Str → Option Value} {base : Heap} {N S : Addr}
/-! ### a sheet's making -/
def wySt (rows : List Int) (go : List (Int × Int)) (i : Nat) : List (List Int) × Int := (go.take i).foldl (wyStep rows) ([], (rows.length : Int))
theorem nr_snoc (rows : List Int) (wy : List (List Int)) (x : List Int) : nodeRowsOf rows (wy ++ [x]) = nrStep rows (nodeRowsOf rows wy) x := by
  unfold nodeRowsOf
  rw [List.foldl_append]
  rfl
theorem enumL_snoc {α : Type} (us : List α) (u : α) : enumL (us ++ [u]) = enumL us ++ [(us.length, u)] := by
  unfold enumL
  rw [List.zipIdx_append, List.map_append, Nat.zero_add]
  rfl
theorem ba_snoc (rows : List Int) (wy : List (List Int)) (x : List Int) : bendsOf rows (wy ++ [x]) = baStep (bendsOf rows wy) (wy.length, x) := by
  unfold bendsOf
  rw [enumL_snoc, List.foldl_append]
  rfl
theorem nr_pre (rows : List Int) : ∀ (wy : List (List Int)) (s : List Int), ∃ t, wy.foldl (nrStep rows) s = s ++ t
  | [], s => ⟨[], (List.append_nil s).symm⟩
  | x :: wy, s => by
    obtain ⟨t, ht⟩ := nr_pre rows wy (nrStep rows s x)
    refine ⟨(List.range (x.length - 2)).map (fun i : Nat => at_ rows (x.headD 0) + (1 + (i : Int))) ++ t, ?_⟩
    rw [List.foldl_cons, ht]
    unfold nrStep
    rw [List.append_assoc]
theorem at_pre {rows t : List Int} {x : Int} (h0 : 0 ≤ x) (h1 : x < (rows.length : Int)) : at_ (rows ++ t) x = at_ rows x := by
  unfold at_
  rw [List.getD_eq_getElem?_getD, List.getD_eq_getElem?_getD, List.getElem?_append_left (by omega)]
theorem nr_at {rows : List Int} {wy : List (List Int)} {x : Int} (h0 : 0 ≤ x) (h1 : x < (rows.length : Int)) : at_ (nodeRowsOf rows wy) x = at_ rows x := by
  obtain ⟨t, ht⟩ := nr_pre rows wy rows
  unfold nodeRowsOf
  rw [ht]
  exact at_pre h0 h1
theorem nr_ge {rows : List Int} {wy : List (List Int)} : rows.length ≤ (nodeRowsOf rows wy).length := by
  obtain ⟨t, ht⟩ := nr_pre rows wy rows
  unfold nodeRowsOf
  rw [ht, List.length_append]
  omega
theorem nrs_len (rows s x : List Int) : (nrStep rows s x).length = s.length + (x.length - 2) := by
  unfold nrStep
  rw [List.length_append, List.length_map, List.length_range]
theorem wy_nodes (rows : List Int) : ∀ (ps : List (Int × Int)) (s : List (List Int) × Int), s.2 = ((nodeRowsOf rows s.1).length : Int) → (ps.foldl (wyStep rows) s).2 = ((nodeRowsOf rows (ps.foldl (wyStep rows) s).1).length : Int)
  | [], s, h => h
  | p :: ps, s, h => by
    rw [List.foldl_cons]
    refine wy_nodes rows ps (wyStep rows s p) ?_
    show s.2 + (gap rows p : Int) = ((nodeRowsOf rows (s.1 ++ [wayOf rows s.2 p])).length : Int)
    rw [nr_snoc, nrs_len, wayOf_len, h]
    omega
theorem wySt_nodes (rows : List Int) (go : List (Int × Int)) (i : Nat) : (wySt rows go i).2 = ((nodeRowsOf rows (wySt rows go i).1).length : Int) := wy_nodes rows _ _ rfl
theorem wySt_succ {rows : List Int} {go : List (Int × Int)} {i : Nat} {p : Int × Int} (h : go[i]? = some p) : wySt rows go (i + 1) = wyStep rows (wySt rows go i) p := by
  unfold wySt
  rw [List.take_add_one, h, List.foldl_append]
  rfl
theorem wySt_all (rows : List Int) (go : List (Int × Int)) : (wySt rows go go.length).1 = waysOf rows go := by
  unfold wySt waysOf
  rw [List.take_length]
theorem wySt_len {rows : List Int} : ∀ (ps : List (Int × Int)) (s : List (List Int) × Int), (ps.foldl (wyStep rows) s).1.length = s.1.length + ps.length
  | [], _ => rfl
  | p :: ps, s => by
    rw [List.foldl_cons, wySt_len ps, List.length_cons]
    show (s.1 ++ [_]).length + _ = _
    rw [List.length_append, List.length_singleton]
    omega
theorem Dn.ok {n : Nat} {rows : List Int} {go : List (Int × Int)} (h : Dn n rows go) (hl : go.length ≤ 24) (i : Nat) : WaysOk n (wySt rows go i).1 := by
  have h' : Dn n rows (go.take i) := ⟨h.len, h.val, fun p hp => h.dn p (List.mem_of_mem_take hp), fun p hp => h.ends p (List.mem_of_mem_take hp)⟩
  exact waysOf_ok h' (by rw [List.length_take]; omega)
theorem nr_bound {n : Nat} {rows : List Int} {wy : List (List Int)} (hw : WaysOk n wy) : (nodeRowsOf rows wy).length ≤ rows.length + 240 := by
  have h := nr_len (rows := rows) (n := n) wy rows hw.each
  have := hw.len
  unfold nodeRowsOf
  omega
theorem ba_bound {n : Nat} {rows : List Int} {wy : List (List Int)} (hw : WaysOk n wy) : (bendsOf rows wy).length ≤ rows.length + 288 := by
  have h := ba_len (enumL wy) (List.replicate rows.length none) fun x hx => by
    obtain ⟨j, hj⟩ := List.getElem?_of_mem hx
    exact (hw.each x.2 (List.mem_of_getElem? (enumL_take wy j x hj).2)).2.1
  rw [enumL_length, List.length_replicate] at h
  have := hw.len
  unfold bendsOf
  omega
theorem srt_mem {ns : List Int} {x : Int} : x ∈ srt ns ↔ x ∈ ns := (srt_perm ns).mem_iff
theorem Dn.rows {n : Nat} {rows : List Int} {go : List (Int × Int)} (h : Dn n rows go) : ∀ r ∈ rows, 0 ≤ r ∧ r ≤ 11 := fun r hr => by
  obtain ⟨j, hj⟩ := List.getElem?_of_mem hr
  have hjl := (List.getElem?_eq_some_iff.mp hj).1
  have q := h.val (j : Int) (by omega) (by rw [← h.len]; omega)
  have e : at_ rows (j : Int) = r := by
    unfold at_
    rw [List.getD_eq_getElem?_getD, Int.toNat_natCast, hj]
    rfl
  rwa [e] at q
abbrev shOf (C : Addr) (net : Dt) (ps : List (Int × Int)) (tl rows : List Int) : Dt := shD C net (srt tl) (nodeRowsOf rows (waysOf rows (goingOf ps tl))) (bendsOf rows (waysOf rows (goingOf ps tl))) (waysOf rows (goingOf ps tl))
def R_Sheet (N : Addr) (ds : List Dt) (fds : List (Str × Dt)) : Prop := ∃ (names : List Str) (ps : List (Int × Int)) (k k2 : Bool) (tl order rows : List Int), ds = [netD N names ps, Dl.S k .int tl, Dl.S k2 .int rows] ∧ ps.length ≤ 24 ∧ names.length ≤ 12 ∧
  TuOk ps.length tl ∧ Fwd order (goingOf ps tl) ∧ Dn names.length rows (goingOf ps tl) ∧
  fds = shF (netD N names ps) (srt tl) (nodeRowsOf rows (waysOf rows (goingOf ps tl))) (bendsOf rows (waysOf rows (goingOf ps tl))) (waysOf rows (goingOf ps tl))
theorem ok_Sheet_init {f : Addr} {fd : FuncData} (F : Fun K "__init__" "Sheet.__init__" s_Sheet_init f fd) (T : Gb K mg N S) (c_ring_left : Cal P w K mg base "ring_left" ["net", "turned"] 3 (spD (R_ring_left N))) (c_is_down : Cal P w K mg base "is_down" ["net", "turned", "rows"] 5 (spD (R_is_down N)))
    (m_many : CalM P w K mg base N "many" ["self"] 1 (spD (R_Net_many N))) (m_arrows : CalM P w K mg base N "arrows" ["self"] 1 (spN (R_Net_arrows N))) (c_ends_of : Cal P w K mg base "ends_of" ["arrow", "is_turned"] 1 (spD R_ends_of)) (m_bent : CalM P w K mg base S "bent" ["self", "number", "upper", "lower"] 1 (spBent S R_bent)) :
    FnOk P w K mg base CX0 6 f fd ["self", "net", "turned", "rows"] (spInitS S (R_Sheet N)) := by
  refine fn_initS F sc_Sheet_init rfl (by decide) fun cdv A outer s H E hr p d1 d2 d3 fds h => ?_
  obtain ⟨names, ps, k, k2, tl, order, rows, e, hlen, hnl, ht, hf, hd, rfl⟩ := h
  cases e
  have hrl := hd.len
  have hgl : (goingOf ps tl).length = ps.length := going_len
  refine ⟨_, (pss_cons (ps_set (i := 4) sc_Sheet_init.nd rfl (.inl rfl) (pe_callC c_ring_left (hr.mono (by decide)) (by rfl) (pa_cons (pv 1) (pa_cons (pv 2) pa_nil))))
      (pss_cons (ps_if (pt_cmpR op_notN1 (pv 4) pe_non (nomark _))
        (pss_one ps_never)
        pss_nil)
      (pss_cons (ps_if (pt_not (pt_val (pe_callC c_is_down (hr.mono (by decide)) (by rfl) (pa_cons (pv 1) (pa_cons (pv 2) (pa_cons (pv 3) pa_nil))))))
        (pss_one ps_never)
        pss_nil)
      (pss_cons (ps_fld (pv 0) (pv 1) rfl)
      (pss_cons (ps_fld (pv 0) (pe_callB (sortK (K := K) rfl) (by rfl) T.sorted b_sorted (pa_cons (pv 2) pa_nil)) rfl)
      (pss_cons (ps_fld (pv 0) (pe_callTy (listK (K := K) rfl) (by rfl) T.list b_list (pa_cons (pv 3) pa_nil)) rfl)
      (pss_cons (ps_fld (pv 0) (pe_op op_mulA (pe_lst (pa_cons pe_non pa_nil)) (pe_methC0 m_many T.clN (hr.mono (by decide)) (pv 1))) rfl)
      (pss_cons (ps_fld (pv 0) (pe_lst pa_nil) rfl)
      (pss_one (ps_for PassesOwn.never rfl (pi_enumA (by rfl) T.enumerate (pa_cons (pe_methC0 m_arrows T.clN (hr.mono (by decide)) (pv 1)) pa_nil)) (pg_tupK (K := K) (n := 2) rfl rfl (pgs_cons (pg_name (i := 5) sc_Sheet_init.nd rfl (.inl rfl)) (pgs_cons (pg_name (i := 6) sc_Sheet_init.nd rfl (.inl rfl)) pgs_nil)))
        (pss_cons (ps_asg (pe_callC c_ends_of (hr.mono (by decide)) (by rfl) (pa_cons (pv 6) (pa_cons (pe_cmpR (inK (K := K) rfl (Room.u65 hr)) (pv 5) (pe_fld (pv 0) rfl) (by rfl)) pa_nil))) (pg_tupK (K := K) (n := 2) rfl rfl (pgs_cons (pg_name (i := 7) sc_Sheet_init.nd rfl (.inl rfl)) (pgs_cons (pg_name (i := 8) sc_Sheet_init.nd rfl (.inl rfl)) pgs_nil))))
        (pss_one (ps_expr (pe_bmK (K := K) rfl PySem.F.plainAttrs_list PySem.F.slot_list_append PySem.F.type_list_append mt_append (pe_fld (pv 0) rfl) (pa_cons (pe_methC m_bent T.clS (hr.mono (by decide)) (pv 0) (pa_cons (pv 5) (pa_cons (pv 7) (pa_cons (pv 8) pa_nil)))) pa_nil))))))))))))))), ?_⟩
  try dsimp only [L2.cxOf, L2.Cx.nox, L2.Cx.wish]
  refine ⟨⟨true, p, S, [(2, Dl.S k .int tl), (3, Dl.S k2 .int rows)], fr2 (netD N names ps) (LI (srt tl)), os3 ((nodeRowsOf rows (wySt rows (goingOf ps tl) (goingOf ps tl).length).1).map .int) ((bendsOf rows (wySt rows (goingOf ps tl) (goingOf ps tl).length).1).map O) ((wySt rows (goingOf ps tl) (goingOf ps tl).length).1.map LI), none, none⟩,
    [none, some (netD N names ps), none, none, none, none, none, none, none], rfl, rfl, ?_, ?_⟩
  · rw [wySt_all]
    rfl
  have b2 : (2, Dl.S k Dt.int tl) ∈ [(2, Dl.S k Dt.int tl), (3, Dl.S k2 Dt.int rows)] := List.mem_cons_self
  have b3 : (3, Dl.S k2 Dt.int rows) ∈ [(2, Dl.S k Dt.int tl), (3, Dl.S k2 Dt.int rows)] := List.mem_cons_of_mem _ List.mem_cons_self
  refine sds_set (d := .non) (ev_callB (R := R_ring_left N) (eb_cons (Ev.b (ev_var rfl)) (eb_cons (evb_bor b2) eb_nil)) ⟨names, ps, k, tl, order, rfl, hlen, ht, hf, rfl⟩ rfl) ?_
  refine sd_seq (sd_no (et_notN (d := .non) (Ev.b (ev_var rfl)) false rfl)) ?_
  refine sd_seq (sd_no (EvT.to (et_not (et_B (b := true) (Ev.b (ev_callB (R := R_is_down N) (eb_cons (Ev.b (ev_var rfl)) (eb_cons (evb_bor b2) (eb_cons (evb_bor b3) eb_nil))) ⟨names, ps, k, k2, tl, order, rows, rfl, hlen, ht, hf, hrl, by omega, hd.rows, by rw [hrl]; exact hd.ends, hd.dn, rfl⟩ rfl)))) rfl)) ?_
  refine sd_seq (sd_sfro (n := fN) (ev_var rfl) T.clS T.sNet rfl rfl rfl rfl rfl (by show 0 < 1000; decide)) ?_
  refine sd_seq (sd_sfro (n := fT) (EvN.e (ev_sortedK (ns := tl) (k := k) (evb_bor b2))) T.clS T.sTurned rfl rfl rfl rfl ((lkn b_TN).trans rfl) (by show 1 < 1000; decide)) ?_
  refine sd_seq (sd_sown (n := fR) (evn_listBS (f := Dt.int) (us := rows) (k := k2) (evb_bor b3) (fun _ => rfl)) T.clS T.sRows rfl rfl rfl (f2no b_RN b_RT) rfl (by show 2 < 1000; decide)) ?_
  refine sd_seq (sd_sown (n := fA) (ds := (List.replicate rows.length (none : Option Int)).map O) (EvN.to (ev_rep (x := .non) (a := (names.length : Int)) (EvN.e (ev_lst (ea_cons ev_non ea_nil))) (Ev.b (ev_many (ev_var rfl))) (by omega) (by omega)) (by rw [List.map_replicate, Int.toNat_natCast, hrl]; rfl)) T.clS T.sArrows rfl rfl rfl (f2no b_AN b_AT) ((lkn b_AR).trans rfl) (by show 3 < 1000; decide)) ?_
  refine sd_seq (sd_sown (n := fW) (ds := []) (ev_lst ea_nil) T.clS T.sWays rfl rfl rfl (f2no b_WN b_WT) ((lkn b_WR).trans ((lkn b_WA).trans rfl)) (by show 4 < 1000; decide)) ?_
  refine sd_forN (n := (goingOf ps tl).length) (it_enumL (us := ps) (f := PR) (EvN.e (evn_arrows (ev_var rfl)))) (by rw [List.length_map, enumL_length, hgl])
    (fun i => osh ⟨true, p, S, [(2, Dl.S k .int tl), (3, Dl.S k2 .int rows)], fr2 (netD N names ps) (LI (srt tl)), os3 ((nodeRowsOf rows (wySt rows (goingOf ps tl) i).1).map .int) ((bendsOf rows (wySt rows (goingOf ps tl) i).1).map O) ((wySt rows (goingOf ps tl) i).1.map LI), none, none⟩)
    (fun _ => [none, some (netD N names ps), none, none, none, none, none, none, none]) rfl (by walk_at "le") ?_
  intro i d hdd
  rw [List.getElem?_map] at hdd
  cases hx : (enumL ps)[i]? with
  | none => rw [hx] at hdd; cases hdd
  | some x =>
    rw [hx] at hdd
    cases hdd
    obtain ⟨e1, e2⟩ := enumL_take _ i x hx
    have hil : i < ps.length := (List.getElem?_eq_some_iff.mp e2).1
    have hgo : (goingOf ps tl)[i]? = some (goWay tl x) := by
      unfold goingOf
      rw [List.getElem?_map, hx]
      rfl
    have hgm := List.mem_of_getElem? hgo
    obtain ⟨a1, a2, a3, a4⟩ := hd.ends _ hgm
    have hdn := hd.dn _ hgm
    have hv1 := (hd.val _ a1 a2).1
    have hv2 := (hd.val _ a3 a4).2
    have hwk := hd.ok (by rw [hgl]; exact hlen) i
    have hb1 := nr_bound (rows := rows) hwk
    have hb2 := ba_bound (rows := rows) hwk
    have hb3 := nr_ge (rows := rows) (wy := (wySt rows (goingOf ps tl) i).1)
    have hnd := wySt_nodes rows (goingOf ps tl) i
    have hss := wySt_succ (rows := rows) hgo
    have hwl : (wySt rows (goingOf ps tl) i).1.length = i := by
      unfold wySt
      rw [wySt_len, List.length_take]
      show 0 + min i _ = i
      omega
    have q1 := nr_at (rows := rows) (wy := (wySt rows (goingOf ps tl) i).1) a1 (by omega)
    have q2 := nr_at (rows := rows) (wy := (wySt rows (goingOf ps tl) i).1) a3 (by omega)
    have hgap : gap (nodeRowsOf rows (wySt rows (goingOf ps tl) i).1) (goWay tl x) = gap rows (goWay tl x) := by
      unfold gap
      rw [q1, q2]
    have hway : wayOf (nodeRowsOf rows (wySt rows (goingOf ps tl) i).1) ((nodeRowsOf rows (wySt rows (goingOf ps tl) i).1).length : Int) (goWay tl x) = wayOf rows (wySt rows (goingOf ps tl) i).2 (goWay tl x) := by
      unfold wayOf
      rw [hgap, hnd]
    have hwy' : (wySt rows (goingOf ps tl) (i + 1)).1 = (wySt rows (goingOf ps tl) i).1 ++ [wayOf rows (wySt rows (goingOf ps tl) i).2 (goWay tl x)] := by
      rw [hss]
      rfl
    have hnr' : nodeRowsOf rows (wySt rows (goingOf ps tl) (i + 1)).1 = bRows (nodeRowsOf rows (wySt rows (goingOf ps tl) i).1) (goWay tl x) (gap (nodeRowsOf rows (wySt rows (goingOf ps tl) i).1) (goWay tl x)) := by
      rw [hwy', nr_snoc]
      unfold nrStep bRows
      rw [wayOf_len, wayOf_head, hgap, q1]
      refine congrArg _ ?_
      rw [Nat.add_sub_cancel]
      exact List.map_congr_left fun j _ => by omega
    have hba' : bendsOf rows (wySt rows (goingOf ps tl) (i + 1)).1 = bArs (bendsOf rows (wySt rows (goingOf ps tl) i).1) (x.1 : Int) (gap (nodeRowsOf rows (wySt rows (goingOf ps tl) i).1) (goWay tl x)) := by
      rw [hwy', ba_snoc]
      unfold baStep bArs
      rw [hwl, e1, hgap]
      show _ ++ List.replicate ((wayOf _ _ _).length - 2) _ = _
      rw [wayOf_len, Nat.add_sub_cancel]
    refine ⟨_, _, tg_pair (tg_name (nin rfl)) (tg_name (nin rfl)), ?_⟩
    refine sd_seq (sd_asg (d := .tup [.int (goWay tl x).1, .int (goWay tl x).2]) (Ev.to (ev_call (R := R_ends_of) (ea_cons (ev_var rfl) (ea_cons (ev_inI (n := (x.1 : Int)) (ns := srt tl) (Ev.b (ev_var rfl)) (Ev.b (ev_sfro T.clS T.sTurned f2T))) ea_nil)) ⟨x.2, decide ((x.1 : Int) ∈ srt tl), rfl, rfl⟩) ?_) (tg_pair (tg_name (nin rfl)) (tg_name (nin rfl)))) ?_
    · unfold goWay
      by_cases hm : (x.1 : Int) ∈ tl
      · rw [if_pos (decide_eq_true (srt_mem.mpr hm)), if_pos hm]
        rfl
      · rw [if_neg (by rw [decide_eq_false (fun z => hm (srt_mem.mp z))]; exact Bool.false_ne_true), if_neg hm]
        rfl
    refine Sd.weak (Sd.to (sd_bentApp (R := R_bent) (n := fW) (m := "bent") (ds := [.int (x.1 : Int), .int (goWay tl x).1, .int (goWay tl x).2]) (ws := (wySt rows (goingOf ps tl) i).1.map LI) (ws' := (wySt rows (goingOf ps tl) i).1.map LI) T.clS T.sWays (ea_cons (ev_var rfl) (ea_cons (ev_var rfl) (ea_cons (ev_var rfl) ea_nil)))
      ⟨(x.1 : Int), goWay tl x, nodeRowsOf rows (wySt rows (goingOf ps tl) i).1, bendsOf rows (wySt rows (goingOf ps tl) i).1, (wySt rows (goingOf ps tl) i).1.map LI, rfl, f2no b_RN b_RT, f2no b_AN b_AT, rfl, ⟨a1, by omega, a3, by omega⟩, ⟨by omega, by omega, by omega⟩, by omega, by omega, rfl, rfl⟩
      (f2no (by decide +kernel) (by decide +kernel)) (o3no (by decide +kernel) (by decide +kernel) (by decide +kernel)) (f2no b_WN b_WT) o3W o3W (by rw [List.length_map, hwl]; omega) rfl rfl) ?_) (by walk_at "le")
    refine Eq.trans (congrArg (fun os => osh ⟨true, p, S, [(2, Dl.S k .int tl), (3, Dl.S k2 .int rows)], fr2 (netD N names ps) (LI (srt tl)), os, none, none⟩) (pt3W (c := (wySt rows (goingOf ps tl) i).1.map LI))) ?_
    rw [hnr', hba', hwy', List.map_append, hway]
    rfl

end
end Dl

namespace Dl
open PySem L2
local macro_rules | `(tactic| walk_at "le") => `(tactic| repeat (first | exact LeE.nil | refine LeE.keep ?_ | refine LeE.drop ?_))
local macro_rules | `(tactic| walk_at "e") => `(tactic| first
  | (with_reducible apply Ev.b); walk_at "e"
  | (with_reducible apply ev_var); exact rfl
  | with_reducible apply ev_int
  | with_reducible apply ev_str
  | with_reducible apply ev_bl
  | with_reducible apply ev_non
  | with_reducible apply evb_own
  | ((with_reducible apply ev_add) <;> walk_at "e")
  | ((with_reducible apply ev_sub) <;> walk_at "e")
  | ((with_reducible apply ev_mod) <;> first | walk_at "e" | skip)
  | ((with_reducible apply ev_div) <;> first | walk_at "e" | skip)
  | ((with_reducible apply ev_mul) <;> first | walk_at "e" | skip)
  | ((with_reducible apply ev_pow) <;> first | walk_at "e" | skip)
  | ((with_reducible apply ev_lt) <;> walk_at "e")
  | ((with_reducible apply ev_le) <;> walk_at "e")
  | ((with_reducible apply ev_gt) <;> walk_at "e")
  | ((with_reducible apply ev_ge) <;> walk_at "e")
  | ((with_reducible apply ev_len) <;> walk_at "e")
  | ((with_reducible apply ev_lenR) <;> walk_at "e")
  | with_reducible apply ea_nil
  | with_reducible apply eb_nil
  | ((with_reducible apply ea_cons) <;> walk_at "e")
  | ((with_reducible apply eb_cons) <;> walk_at "e")
  | ((with_reducible apply et_test) <;> walk_at "e")
  | ((with_reducible apply et_B) <;> walk_at "e"))
local macro_rules | `(tactic| walk_at "ev") => `(tactic| (walk_at "e" <;> first | done | decide | omega | assumption | exact cmul_l (by decide) (by decide) | exact cmul_r (by decide) (by decide) | exact cpow_mk (by decide) (by decide) (by decide) | exact cdiv_mk (by decide) (by decide)))
section
variable {P : Program} {w : World} {K : PySem.W.Frag} {mg : Str → Option Value} {base : Heap} {N S : Addr}
/-! ### a sheet's answers -/
section
variable {o : Ow} {en : En} {te tb : TE} {net : Dt} {tu nr : List Int} {na : List (Option Int)} {wy : List (List Int)}
theorem shN (T : Gb K mg N S) (h : Ev te o en (shD S net tu nr na wy)) : Ev (tFld K te fN) o en net := ev_fld h T.clS T.sNet s1
theorem shT (T : Gb K mg N S) (h : Ev te o en (shD S net tu nr na wy)) : Ev (tFld K te fT) o en (LI tu) := ev_fld h T.clS T.sTurned s2
theorem shR (T : Gb K mg N S) (h : Ev te o en (shD S net tu nr na wy)) : Ev (tFld K te fR) o en (LI nr) := ev_fld h T.clS T.sRows s3
theorem shA (T : Gb K mg N S) (h : Ev te o en (shD S net tu nr na wy)) : Ev (tFld K te fA) o en (L O na) := ev_fld h T.clS T.sArrows s4
theorem shW (T : Gb K mg N S) (h : Ev te o en (shD S net tu nr na wy)) : Ev (tFld K te fW) o en (L LI wy) := ev_fld h T.clS T.sWays s5
end
def R_sh_net (S : Addr) (ds : List Dt) (d : Dt) : Prop := ∃ (net : Dt) (tu nr : List Int) (na : List (Option Int)) (wy : List (List Int)), ds = [shD S net tu nr na wy] ∧ d = net
theorem ok_Sheet_net {f : Addr} {fd : FuncData} (F : Fun K "net" "Sheet.net" s_Sheet_net f fd) (T : Gb K mg N S) : FnOk P w K mg base CX0 1 f fd ["self"] (spD (R_sh_net S)) := by
  refine fn_dat F sc_Sheet_net (by rintro _ _ ⟨_, _, _, _, _, rfl, _⟩; rfl) fun cdv A outer s H E hr ds d h => ?_
  obtain ⟨net, tu, nr, na, wy, rfl, rfl⟩ := h
  refine ⟨_, (pss_one (ps_ret (pe_fld (pv 0) rfl))), ?_⟩
  try dsimp only [L2.cxOf, L2.Cx.nox, L2.Cx.wish]
  exact blk_ret (shN T (ev_var rfl))
def R_sh_turned (S : Addr) (ds es : List Dt) : Prop := ∃ (net : Dt) (tu nr : List Int) (na : List (Option Int)) (wy : List (List Int)), ds = [shD S net tu nr na wy] ∧ es = tu.map .int
theorem ok_Sheet_turned {f : Addr} {fd : FuncData} (F : Fun K "turned" "Sheet.turned" s_Sheet_turned f fd) (T : Gb K mg N S) : FnOk P w K mg base CX0 1 f fd ["self"] (spN (R_sh_turned S)) := by
  refine fn_new F sc_Sheet_turned (by rintro _ _ ⟨_, _, _, _, _, rfl, _⟩; rfl) fun cdv A outer s H E hr ds d h => ?_
  obtain ⟨net, tu, nr, na, wy, rfl, rfl⟩ := h
  refine ⟨_, (pss_one (ps_ret (pe_callTy (listK (K := K) rfl) (by rfl) T.list b_list (pa_cons (pe_fld (pv 0) rfl) pa_nil)))), ?_⟩
  try dsimp only [L2.cxOf, L2.Cx.nox, L2.Cx.wish]
  exact blk_retN (ev_list (Ev.to (shT T (ev_var rfl)) rfl))
def R_sh_rows (N S : Addr) (ds es : List Dt) : Prop := ∃ (names : List Str) (ps : List (Int × Int)) (tu nr : List Int) (na : List (Option Int)) (wy : List (List Int)), ds = [shD S (netD N names ps) tu nr na wy] ∧ es = (nr.take names.length).map .int
theorem ok_Sheet_rows {f : Addr} {fd : FuncData} (F : Fun K "rows" "Sheet.rows" s_Sheet_rows f fd) (T : Gb K mg N S) (m_many : CalM P w K mg base N "many" ["self"] 1 (spD (R_Net_many N))) : FnOk P w K mg base CX0 2 f fd ["self"] (spN (R_sh_rows N S)) := by
  refine fn_new F sc_Sheet_rows (by rintro _ _ ⟨_, _, _, _, _, _, rfl, _⟩; rfl) fun cdv A outer s H E hr ds d h => ?_
  obtain ⟨names, ps, tu, nr, na, wy, rfl, rfl⟩ := h
  refine ⟨_, (pss_one (ps_ret (pe_slice (slK (K := K) rfl) (pe_fld (pv 0) rfl) po_none (po_some (pe_methC0 m_many T.clN (hr.mono (by decide)) (pe_fld (pv 0) rfl)))))), ?_⟩
  try dsimp only [L2.cxOf, L2.Cx.nox, L2.Cx.wish]
  exact blk_retN (EvN.to (ev_take (f := Dt.int) (us := nr) (a := (names.length : Int)) (shR T (ev_var rfl)) (Ev.b (ev_many (shN T (ev_var rfl)))) (by omega)) (by rw [Int.toNat_natCast]))
def R_sh_many_rows (S : Addr) (ds : List Dt) (d : Dt) : Prop := ∃ (net : Dt) (tu nr : List Int) (na : List (Option Int)) (wy : List (List Int)), ds = [shD S net tu nr na wy] ∧ nr ≠ [] ∧ d = .int (mx nr + 1)
theorem ok_Sheet_many_rows {f : Addr} {fd : FuncData} (F : Fun K "many_rows" "Sheet.many_rows" s_Sheet_many_rows f fd) (T : Gb K mg N S) : FnOk P w K mg base CX0 1 f fd ["self"] (spD (R_sh_many_rows S)) := by
  refine fn_dat F sc_Sheet_many_rows (by rintro _ _ ⟨_, _, _, _, _, rfl, _⟩; rfl) fun cdv A outer s H E hr ds d h => ?_
  obtain ⟨net, tu, nr, na, wy, rfl, hne, rfl⟩ := h
  refine ⟨_, (pss_one (ps_ret (pe_op op_addA (pe_callB (maxK (K := K) rfl rfl) (by rfl) T.max b_max (pa_cons (pe_fld (pv 0) rfl) pa_nil)) pe_int))), ?_⟩
  try dsimp only [L2.cxOf, L2.Cx.nox, L2.Cx.wish]
  exact blk_ret (ev_add (Ev.b (ev_maxL (ns := nr) (Ev.b (shR T (ev_var rfl))) hne)) (Ev.b ev_int))
def R_sh_many_nodes (S : Addr) (ds : List Dt) (d : Dt) : Prop := ∃ (net : Dt) (tu nr : List Int) (na : List (Option Int)) (wy : List (List Int)), ds = [shD S net tu nr na wy] ∧ d = .int (nr.length : Int)
theorem ok_Sheet_many_nodes {f : Addr} {fd : FuncData} (F : Fun K "many_nodes" "Sheet.many_nodes" s_Sheet_many_nodes f fd) (T : Gb K mg N S) : FnOk P w K mg base CX0 1 f fd ["self"] (spD (R_sh_many_nodes S)) := by
  refine fn_dat F sc_Sheet_many_nodes (by rintro _ _ ⟨_, _, _, _, _, rfl, _⟩; rfl) fun cdv A outer s H E hr ds d h => ?_
  obtain ⟨net, tu, nr, na, wy, rfl, rfl⟩ := h
  refine ⟨_, (pss_one (ps_ret (pe_callB (lenK (K := K) rfl) (by rfl) T.len b_len (pa_cons (pe_fld (pv 0) rfl) pa_nil)))), ?_⟩
  try dsimp only [L2.cxOf, L2.Cx.nox, L2.Cx.wish]
  exact blk_ret (ev_len (Ev.b (shR T (ev_var rfl))))
def R_sh_want_node (S : Addr) (ds : List Dt) (d : Dt) : Prop := ∃ (net : Dt) (tu nr : List Int) (na : List (Option Int)) (wy : List (List Int)) (x : Int), ds = [shD S net tu nr na wy, .int x] ∧ 0 ≤ x ∧ x < (nr.length : Int) ∧ d = .non
theorem ok_Sheet_want_node {f : Addr} {fd : FuncData} (F : Fun K "want_node" "Sheet.want_node" s_Sheet_want_node f fd) (T : Gb K mg N S) : FnOk P w K mg base CX0 1 f fd ["self", "node"] (spD (R_sh_want_node S)) := by
  refine fn_non F sc_Sheet_want_node (by rintro _ _ ⟨_, _, _, _, _, _, rfl, _⟩; rfl) (by rintro _ _ ⟨_, _, _, _, _, _, _, _, _, rfl⟩; rfl) fun cdv A outer s H E hr ds d h => ?_
  obtain ⟨net, tu, nr, na, wy, x, rfl, h0, h1, rfl⟩ := h
  refine ⟨_, (pss_one (ps_if (PW.pt (pw_or (pt_cmpR op_ltI (pv 1) pe_int (nomark _)) (pw_or1 (pt_cmpR op_geI (pv 1) (pe_callB (lenK (K := K) rfl) (by rfl) T.len b_len (pa_cons (pe_fld (pv 0) rfl) pa_nil)) (nomark _)))))
        (pss_one ps_never)
        pss_nil)), ?_⟩
  try dsimp only [L2.cxOf, L2.Cx.nox, L2.Cx.wish]
  exact ⟨noO, [some (shD S net tu nr na wy), some (.int x)], sd_no (EvT.to (et_or (a := false) (b := false) (EvT.to (et_test (Ev.b (ev_lt (a := x) (b := 0) (Ev.b (ev_var rfl)) (Ev.b ev_int)))) (dec_f (by omega))) fun _ => EvT.to (et_test (Ev.b (ev_ge (a := x) (b := (nr.length : Int)) (Ev.b (ev_var rfl)) (Ev.b (ev_len (f := Dt.int) (us := nr) (Ev.b (shR T (ev_var rfl)))))))) (dec_f (by omega))) rfl)⟩
def R_sh_row_of (S : Addr) (ds : List Dt) (d : Dt) : Prop := ∃ (net : Dt) (tu nr : List Int) (na : List (Option Int)) (wy : List (List Int)) (x : Int), ds = [shD S net tu nr na wy, .int x] ∧ 0 ≤ x ∧ x < (nr.length : Int) ∧ d = .int (at_ nr x)
theorem ok_Sheet_row_of {f : Addr} {fd : FuncData} (F : Fun K "row_of" "Sheet.row_of" s_Sheet_row_of f fd) (T : Gb K mg N S) (m_want_node : CalM P w K mg base S "want_node" ["self", "node"] 1 (spD (R_sh_want_node S))) : FnOk P w K mg base CX0 2 f fd ["self", "node"] (spD (R_sh_row_of S)) := by
  refine fn_dat F sc_Sheet_row_of (by rintro _ _ ⟨_, _, _, _, _, _, rfl, _⟩; rfl) fun cdv A outer s H E hr ds d h => ?_
  obtain ⟨net, tu, nr, na, wy, x, rfl, h0, h1, rfl⟩ := h
  refine ⟨_, (pss_cons (ps_expr (pe_methC m_want_node T.clS (hr.mono (by decide)) (pv 0) (pa_cons (pv 1) pa_nil)))
      (pss_one (ps_ret (pe_ix (ixK (K := K) rfl) (pe_fld (pv 0) rfl) (pv 1) (fun _ _ => rfl))))), ?_⟩
  try dsimp only [L2.cxOf, L2.Cx.nox, L2.Cx.wish]
  refine blk_seq (sd_drop (ev_meth (R := R_sh_want_node S) (ev_var rfl) (s_no (by decide +kernel) (by decide +kernel) (by decide +kernel) (by decide +kernel) (by decide +kernel)) (ea_cons (ev_var rfl) ea_nil) ⟨net, tu, nr, na, wy, x, rfl, h0, h1, rfl⟩)) ?_
  exact blk_ret (ev_ix (f := Dt.int) (us := nr) (shR T (ev_var rfl)) (Ev.b (ev_var rfl)) h0 (at_get h0 h1))
def atO (na : List (Option Int)) (x : Int) : Option Int := na.getD x.toNat none
theorem atO_get {na : List (Option Int)} {x : Int} (h0 : 0 ≤ x) (h1 : x < (na.length : Int)) : na[x.toNat]? = some (atO na x) := by
  unfold atO
  rw [List.getD_eq_getElem?_getD, List.getElem?_eq_getElem (by omega)]
  rfl
def R_sh_arrow_of (S : Addr) (ds : List Dt) (d : Dt) : Prop := ∃ (net : Dt) (tu nr : List Int) (na : List (Option Int)) (wy : List (List Int)) (x : Int), ds = [shD S net tu nr na wy, .int x] ∧ 0 ≤ x ∧ x < (nr.length : Int) ∧ na.length = nr.length ∧ d = O (atO na x)
theorem ok_Sheet_arrow_of {f : Addr} {fd : FuncData} (F : Fun K "arrow_of" "Sheet.arrow_of" s_Sheet_arrow_of f fd) (T : Gb K mg N S) (m_want_node : CalM P w K mg base S "want_node" ["self", "node"] 1 (spD (R_sh_want_node S))) : FnOk P w K mg base CX0 2 f fd ["self", "node"] (spD (R_sh_arrow_of S)) := by
  refine fn_dat F sc_Sheet_arrow_of (by rintro _ _ ⟨_, _, _, _, _, _, rfl, _⟩; rfl) fun cdv A outer s H E hr ds d h => ?_
  obtain ⟨net, tu, nr, na, wy, x, rfl, h0, h1, h2, rfl⟩ := h
  refine ⟨_, (pss_cons (ps_expr (pe_methC m_want_node T.clS (hr.mono (by decide)) (pv 0) (pa_cons (pv 1) pa_nil)))
      (pss_one (ps_ret (pe_ix (ixK (K := K) rfl) (pe_fld (pv 0) rfl) (pv 1) (fun _ _ => rfl))))), ?_⟩
  try dsimp only [L2.cxOf, L2.Cx.nox, L2.Cx.wish]
  refine blk_seq (sd_drop (ev_meth (R := R_sh_want_node S) (ev_var rfl) (s_no (by decide +kernel) (by decide +kernel) (by decide +kernel) (by decide +kernel) (by decide +kernel)) (ea_cons (ev_var rfl) ea_nil) ⟨net, tu, nr, na, wy, x, rfl, h0, h1, rfl⟩)) ?_
  exact blk_ret (ev_ix (f := O) (us := na) (shA T (ev_var rfl)) (Ev.b (ev_var rfl)) h0 (atO_get h0 (by omega)))
def inRow (nr : List Int) (r : Int) : List Int := ((enumL nr).filter fun x => decide (x.2 = r)).map fun x => (x.1 : Int)
def R_sh_nodes_in (S : Addr) (ds es : List Dt) : Prop := ∃ (net : Dt) (tu nr : List Int) (na : List (Option Int)) (wy : List (List Int)) (r : Int), ds = [shD S net tu nr na wy, .int r] ∧ nr ≠ [] ∧ nr.length ≤ 1000 ∧ 0 ≤ r ∧ r ≤ mx nr ∧ es = (inRow nr r).map .int
theorem ok_Sheet_nodes_in {f : Addr} {fd : FuncData} (F : Fun K "nodes_in" "Sheet.nodes_in" s_Sheet_nodes_in f fd) (T : Gb K mg N S) (m_many_rows : CalM P w K mg base S "many_rows" ["self"] 1 (spD (R_sh_many_rows S))) : FnOk P w K mg base CX0 2 f fd ["self", "row"] (spN (R_sh_nodes_in S)) := by
  refine fn_new F sc_Sheet_nodes_in (by rintro _ _ ⟨_, _, _, _, _, _, rfl, _⟩; rfl) fun cdv A outer s H E hr ds d h => ?_
  obtain ⟨net, tu, nr, na, wy, r, rfl, hne, hl, h0, h1, rfl⟩ := h
  refine ⟨_, (pss_cons (ps_if (PW.pt (pw_or (pt_cmpR op_ltI (pv 1) pe_int (nomark _)) (pw_or1 (pt_cmpR op_geI (pv 1) (pe_methC0 m_many_rows T.clS (hr.mono (by decide)) (pv 0)) (nomark _)))))
        (pss_one ps_never)
        pss_nil)
      (pss_one (ps_ret (pe_lc (own := [("node", 2), ("own", 3)]) rfl sc_Sheet_nodes_in.nd (pi_enumA (by rfl) T.enumerate (pa_cons (pe_fld (pv 0) rfl) pa_nil)) (blkOk_by (own := [("node", 2), ("own", 3)]) (N := nm_Sheet_nodes_in) (sc := defScope s_Sheet_nodes_in) (by decide +kernel)) (fun _ _ _ _ _ => (pg_tupK (K := K) (n := 2) rfl rfl (pgs_cons (pg_name (i := 2) sc_Sheet_nodes_in.nd rfl (.inl rfl)) (pgs_cons (pg_name (i := 3) sc_Sheet_nodes_in.nd rfl (.inl rfl)) pgs_nil)))) (fun _ _ _ _ _ => (pts_one (pt_cmpR (eqK (K := K) rfl hr.units) (pv 3) (pv 1) (nomark _)))) (fun _ _ _ _ _ => (pv 2)))))), ?_⟩
  try dsimp only [L2.cxOf, L2.Cx.nox, L2.Cx.wish]
  refine blk_ifr (c := false) (EvT.to (et_or (a := false) (b := false) (EvT.to (et_test (Ev.b (ev_lt (a := r) (b := 0) (Ev.b (ev_var rfl)) (Ev.b ev_int)))) (dec_f (by omega))) fun _ => EvT.to (et_test (Ev.b (ev_ge (a := r) (b := mx nr + 1) (Ev.b (ev_var rfl)) (Ev.b (ev_meth (R := R_sh_many_rows S) (ev_var rfl) (s_no (by decide +kernel) (by decide +kernel) (by decide +kernel) (by decide +kernel) (by decide +kernel)) ea_nil ⟨net, tu, nr, na, wy, rfl, hne, rfl⟩))))) (dec_f (by omega))) rfl) (fun hc => by cases hc) fun _ => ?_
  refine blk_retN (EvN.to (evn_lc (xs := enumL nr) (f := E2 Dt.int) (fun x => decide (x.2 = r)) (fun x => .int (x.1 : Nat)) (it_enumL (us := nr) (shR T (ev_var rfl))) (fun j hj => nin (by rfl)) (by rw [enumL_length]; omega) fun x hx => ?_) (by
    unfold inRow
    rw [List.map_map]
    rfl))
  exact ⟨_, _, tg_pair (tg_name (nin rfl)) (tg_name (nin rfl)), fun j hj => hj, et_test (Ev.b (ev_eq (u := x.2) (v := r) enc_int (Ev.b (ev_var rfl)) (Ev.b (ev_var rfl)) lay_int lay_int)), fun _ => ev_var rfl⟩
def R_sh_pieces (S : Addr) (ds es : List Dt) : Prop := ∃ (net : Dt) (tu nr : List Int) (na : List (Option Int)) (wy : List (List Int)), ds = [shD S net tu nr na wy] ∧ wy.length ≤ 24 ∧ (∀ w ∈ wy, w.length ≤ 12) ∧ es = (piecesOf wy).map PR
theorem ok_Sheet_pieces {f : Addr} {fd : FuncData} (F : Fun K "pieces" "Sheet.pieces" s_Sheet_pieces f fd) (T : Gb K mg N S) : FnOk P w K mg base CX0 1 f fd ["self"] (spN (R_sh_pieces S)) := by
  refine fn_new F sc_Sheet_pieces (by rintro _ _ ⟨_, _, _, _, _, rfl, _⟩; rfl) fun cdv A outer s H E hr ds d h => ?_
  obtain ⟨net, tu, nr, na, ways, rfl, hl, hw, rfl⟩ := h
  refine ⟨_, (pss_cons (ps_set (i := 1) sc_Sheet_pieces.nd rfl (.inl rfl) (pe_lst pa_nil))
      (pss_cons (ps_for PassesOwn.never rfl (pi_any (pe_fld (pv 0) rfl)) (pg_name (i := 2) sc_Sheet_pieces.nd rfl (.inl rfl))
        (pss_one (ps_expr (pe_bmK (K := K) rfl PySem.F.plainAttrs_list PySem.F.slot_list_extend PySem.F.type_list_extend mt_extend (pv 1) (pa_cons (pe_lc (own := [("upper", 3), ("lower", 4)]) rfl sc_Sheet_pieces.nd (pi_zip (by rfl) T.zip (pa_cons (pv 2) (pa_cons (pe_slice (slK (K := K) rfl) (pv 2) (po_some pe_int) po_none) pa_nil))) (blkOk_by (own := [("upper", 3), ("lower", 4)]) (N := nm_Sheet_pieces) (sc := defScope s_Sheet_pieces) (by decide +kernel)) (fun _ _ _ _ _ => (pg_tupK (K := K) (n := 2) rfl rfl (pgs_cons (pg_name (i := 3) sc_Sheet_pieces.nd rfl (.inl rfl)) (pgs_cons (pg_name (i := 4) sc_Sheet_pieces.nd rfl (.inl rfl)) pgs_nil)))) (fun _ _ _ _ _ => pts_nil) (fun _ _ _ _ _ => (pe_tup (pa_cons (pv 3) (pa_cons (pv 4) pa_nil))))) pa_nil)))))
      (pss_one (ps_ret (pv 1))))), ?_⟩
  try dsimp only [L2.cxOf, L2.Cx.nox, L2.Cx.wish]
  refine blk_new (ev_lst ea_nil) ?_
  refine blk_seq (sd_fold pcStep [] (fun s => ol 1 (s.map PR)) (fun _ => [some (shD S net tu nr na ways), none, none, none, none]) (it_L (us := ways) (shW T (ev_var rfl))) rfl (by walk_at "le") ?_) blk_retO
  intro i x hx s hs
  have hxl := hw x (List.mem_of_getElem? hx)
  have hsl := pc_len (ways.take i) [] fun v hv => hw v (List.mem_of_mem_take hv)
  rw [← hs, List.length_take] at hsl
  have hsl' : s.length ≤ 0 + 12 * min i ways.length := hsl
  refine ⟨_, _, tg_name (nin rfl), ?_⟩
  refine sd1_ext (es := (x.zip (x.drop 1)).map PR) (EvN.e (evn_lc1 (xs := x.zip (x.drop 1)) (f := T2 .int .int) PR (it_zipL (us := x) (vs := x.drop 1) (f := Dt.int) (g := Dt.int) (ev_var rfl) (EvN.e (ev_drop (f := Dt.int) (us := x) (a := 1) (ev_var rfl) (Ev.b ev_int) (by decide)))) (fun j hj => nin (by
      rcases List.mem_cons.mp hj with rfl | hj
      · rfl
      · rw [List.mem_singleton.mp hj]; rfl)) (by rw [List.length_zip]; omega) fun p hp => ?_)) ?_ (by walk_at "le") ?_
  · exact ⟨_, _, tg_pair (tg_name (nin rfl)) (tg_name (nin rfl)), fun j hj => hj, ev_pair (f := Dt.int) (g' := Dt.int) (ev_var rfl) (ev_var rfl)⟩
  · unfold pcStep
    rw [List.map_append]
  · rw [List.length_map, List.length_map, List.length_zip]
    omega
def R_sh_way (S : Addr) (ds es : List Dt) : Prop := ∃ (net : Dt) (tu nr : List Int) (na : List (Option Int)) (wy : List (List Int)) (k : Int) (v : List Int), ds = [shD S net tu nr na wy, .int k] ∧ 0 ≤ k ∧ k < (wy.length : Int) ∧ wy[k.toNat]? = some v ∧ es = v.map .int
theorem ok_Sheet_way {f : Addr} {fd : FuncData} (F : Fun K "way" "Sheet.way" s_Sheet_way f fd) (T : Gb K mg N S) : FnOk P w K mg base CX0 1 f fd ["self", "arrow"] (spN (R_sh_way S)) := by
  refine fn_new F sc_Sheet_way (by rintro _ _ ⟨_, _, _, _, _, _, _, rfl, _⟩; rfl) fun cdv A outer s H E hr ds d h => ?_
  obtain ⟨net, tu, nr, na, wy, k, v, rfl, h0, h1, hv, rfl⟩ := h
  refine ⟨_, (pss_cons (ps_if (PW.pt (pw_or (pt_cmpR op_ltI (pv 1) pe_int (nomark _)) (pw_or1 (pt_cmpR op_geI (pv 1) (pe_callB (lenK (K := K) rfl) (by rfl) T.len b_len (pa_cons (pe_fld (pv 0) rfl) pa_nil)) (nomark _)))))
        (pss_one ps_never)
        pss_nil)
      (pss_one (ps_ret (pe_callTy (listK (K := K) rfl) (by rfl) T.list b_list (pa_cons (pe_ix (ixK (K := K) rfl) (pe_fld (pv 0) rfl) (pv 1) (fun _ _ => rfl)) pa_nil))))), ?_⟩
  try dsimp only [L2.cxOf, L2.Cx.nox, L2.Cx.wish]
  refine blk_ifr (c := false) (EvT.to (et_or (a := false) (b := false) (EvT.to (et_test (Ev.b (ev_lt (a := k) (b := 0) (Ev.b (ev_var rfl)) (Ev.b ev_int)))) (dec_f (by omega))) fun _ => EvT.to (et_test (Ev.b (ev_ge (a := k) (b := (wy.length : Int)) (Ev.b (ev_var rfl)) (Ev.b (ev_len (f := LI) (us := wy) (Ev.b (shW T (ev_var rfl)))))))) (dec_f (by omega))) rfl) (fun hc => by cases hc) fun _ => ?_
  exact blk_retN (ev_list (Ev.to (ev_ix (f := LI) (us := wy) (u := v) (shW T (ev_var rfl)) (Ev.b (ev_var rfl)) h0 hv) rfl))
def R_first_order (S : Addr) (ds : List Dt) (nss : List (List Int)) : Prop := ∃ (net : Dt) (tu nr : List Int) (na : List (Option Int)) (wy : List (List Int)), ds = [shD S net tu nr na wy] ∧ nr ≠ [] ∧ nr.length ≤ 1000 ∧ 0 ≤ mx nr ∧ mx nr ≤ 100 ∧ nss = (List.range (mx nr + 1).toNat).map fun i : Nat => inRow nr (i : Int)
theorem ok_first_order {f : Addr} {fd : FuncData} (F : Fun K "first_order" "first_order" s_first_order f fd) (T : Gb K mg N S) (m_many_rows : CalM P w K mg base S "many_rows" ["self"] 1 (spD (R_sh_many_rows S))) (m_nodes_in : CalM P w K mg base S "nodes_in" ["self", "row"] 2 (spN (R_sh_nodes_in S))) :
    FnOk P w K mg base CX0 3 f fd ["sheet"] (spL (R_first_order S)) := by
  refine fn_oll F sc_first_order (by rintro _ _ ⟨_, _, _, _, _, rfl, _⟩; rfl) fun cdv A outer s H E hr ds d h => ?_
  obtain ⟨net, tu, nr, na, wy, rfl, hne, hl, h0, h1, rfl⟩ := h
  refine ⟨_, (pss_one (ps_ret (pe_lc (own := [("row", 1)]) rfl sc_first_order.nd (pi_range1 (by rfl) T.range (pa_cons (pe_methC0 m_many_rows T.clS (hr.mono (by decide)) (pv 0)) pa_nil)) (blkOk_by (own := [("row", 1)]) (N := nm_first_order) (sc := defScope s_first_order) (by decide +kernel)) (fun _ _ _ _ _ => (pg_name (i := 1) sc_first_order.nd rfl (.inl rfl))) (fun _ _ _ _ _ => pts_nil) (fun _ _ _ _ _ => (pe_methC m_nodes_in T.clS (hr.mono (by decide)) (pv 0) (pa_cons (pv 1) pa_nil)))))), ?_⟩
  try dsimp only [L2.cxOf, L2.Cx.nox, L2.Cx.wish]
  refine evl_lc (xs := List.range (mx nr + 1).toNat) (f := I0) (fun i : Nat => inRow nr (i : Int)) (it_rng (a := mx nr + 1) (Ev.b (ev_meth (R := R_sh_many_rows S) (ev_var rfl) (s_no (by decide +kernel) (by decide +kernel) (by decide +kernel) (by decide +kernel) (by decide +kernel)) ea_nil ⟨net, tu, nr, na, wy, rfl, hne, rfl⟩)) (by omega) (by omega)) (fun j hj => nin (by
      rw [List.mem_singleton.mp hj]
      rfl)) (by rw [List.length_range]; omega) fun x hx => ?_
  have hxl := List.mem_range.mp hx
  exact ⟨_, _, tg_name (nin rfl), fun j hj => hj, evn_meth (RN := R_sh_nodes_in S) (ev_var rfl) (s_no (by decide +kernel) (by decide +kernel) (by decide +kernel) (by decide +kernel) (by decide +kernel)) (ea_cons (ev_var rfl) ea_nil) ⟨net, tu, nr, na, wy, (x : Int), rfl, hne, hl, by omega, by omega, rfl⟩⟩

end
end Dl

namespace Dl
open PySem L2
local macro_rules | `(tactic| walk_at "le") => `(tactic| repeat (first | exact LeE.nil | refine LeE.keep ?_ | refine LeE.drop ?_))
local macro_rules | `(tactic| walk_at "e") => `(tactic| first
  | (with_reducible apply Ev.b); walk_at "e"
  | (with_reducible apply ev_var); exact rfl
  | with_reducible apply ev_int
  | with_reducible apply ev_str
  | with_reducible apply ev_bl
  | with_reducible apply ev_non
  | with_reducible apply evb_own
  | ((with_reducible apply ev_add) <;> walk_at "e")
  | ((with_reducible apply ev_sub) <;> walk_at "e")
  | ((with_reducible apply ev_mod) <;> first | walk_at "e" | skip)
  | ((with_reducible apply ev_div) <;> first | walk_at "e" | skip)
  | ((with_reducible apply ev_mul) <;> first | walk_at "e" | skip)
  | ((with_reducible apply ev_pow) <;> first | walk_at "e" | skip)
  | ((with_reducible apply ev_lt) <;> walk_at "e")
  | ((with_reducible apply ev_le) <;> walk_at "e")
  | ((with_reducible apply ev_gt) <;> walk_at "e")
  | ((with_reducible apply ev_ge) <;> walk_at "e")
  | ((with_reducible apply ev_len) <;> walk_at "e")
  | ((with_reducible apply ev_lenR) <;> walk_at "e")
  | with_reducible apply ea_nil
  | with_reducible apply eb_nil
  | ((with_reducible apply ea_cons) <;> walk_at "e")
  | ((with_reducible apply eb_cons) <;> walk_at "e")
  | ((with_reducible apply et_test) <;> walk_at "e")
  | ((with_reducible apply et_B) <;> walk_at "e"))
local macro_rules | `(tactic| walk_at "ev") => `(tactic| (walk_at "e" <;> first | done | decide | omega | assumption | exact cmul_l (by decide) (by decide) | exact cmul_r (by decide) (by decide) | exact cpow_mk (by decide) (by decide) (by decide) | exact cdiv_mk (by decide) (by decide)))
section
variable {P : Program} {w : World} {K : PySem.W.Frag} {mg : Str → Option Value} {base : Heap} {N S : Addr}
/-! ### the sheet's data are the law's -/
structure Good (names : List Str) (ps : List (Int × Int)) (tu rows : List Int) : Prop where
  nm : NamesOk names
  pl : ps.length ≤ 24
  tl : tu.length ≤ 24
  dn : Dn names.length rows (goingOf ps tu)
section
variable {names : List Str} {ps : List (Int × Int)} {tu rows : List Int}
abbrev wyOf (ps : List (Int × Int)) (tu rows : List Int) : List (List Int) := waysOf rows (goingOf ps tu)
abbrev nrOf (ps : List (Int × Int)) (tu rows : List Int) : List Int := nodeRowsOf rows (wyOf ps tu rows)
abbrev baOf (ps : List (Int × Int)) (tu rows : List Int) : List (Option Int) := bendsOf rows (wyOf ps tu rows)
theorem Good.rl (h : Good names ps tu rows) : rows.length = names.length := h.dn.len
theorem Good.n12 (h : Good names ps tu rows) : names.length ≤ 12 := h.nm.2.1
theorem Good.ne (h : Good names ps tu rows) : rows ≠ [] := fun z => by
  have e := h.rl
  rw [z] at e
  exact h.nm.1 (List.length_eq_zero_iff.mp e.symm)
theorem Good.wk (h : Good names ps tu rows) : WaysOk rows.length (wyOf ps tu rows) := by
  rw [h.rl]
  exact waysOf_ok h.dn (by rw [going_len]; exact h.pl)
theorem Good.mx (h : Good names ps tu rows) : 0 ≤ Dl.mx rows ∧ Dl.mx rows ≤ 11 := h.dn.rows _ (mx_mem h.ne)
theorem nrs_val {n : Nat} {go : List (Int × Int)} (h : Dn n rows go) : ∀ i : Nat, i ≤ go.length → (bendsOf rows (wySt rows go i).1).length = (nodeRowsOf rows (wySt rows go i).1).length ∧ ∀ v ∈ nodeRowsOf rows (wySt rows go i).1, 0 ≤ v ∧ v ≤ Dl.mx rows
  | 0, _ => by
    refine ⟨?_, fun v hv => ⟨(h.rows v hv).1, mx_ge hv⟩⟩
    show (List.replicate rows.length none).length = rows.length
    rw [List.length_replicate]
  | i + 1, hi => by
    obtain ⟨b1, b2⟩ := nrs_val h i (by omega)
    obtain ⟨p, hp⟩ : ∃ p, go[i]? = some p := ⟨_, List.getElem?_eq_getElem (by omega)⟩
    have hpm := List.mem_of_getElem? hp
    obtain ⟨a1, a2, a3, a4⟩ := h.ends p hpm
    obtain ⟨g1, g2⟩ := h.gap hpm
    have hv := h.val p.1 a1 a2
    have hm : at_ rows p.2 ≤ Dl.mx rows := mx_ge (List.mem_of_getElem? (at_get a3 (by rw [h.len]; exact a4)))
    have e : (wySt rows go (i + 1)).1 = (wySt rows go i).1 ++ [wayOf rows (wySt rows go i).2 p] := by
      rw [wySt_succ hp]
      rfl
    rw [e, nr_snoc, ba_snoc]
    refine ⟨?_, fun v hv' => ?_⟩
    · rw [nrs_len]
      unfold baStep
      rw [List.length_append, List.length_replicate, b1]
    · unfold nrStep at hv'
      rcases List.mem_append.mp hv' with q | q
      · exact b2 v q
      · obtain ⟨j, hj, rfl⟩ := List.mem_map.mp q
        have hjl := List.mem_range.mp hj
        rw [wayOf_len] at hjl
        rw [wayOf_head]
        omega
theorem Good.val (h : Good names ps tu rows) : (baOf ps tu rows).length = (nrOf ps tu rows).length ∧ ∀ v ∈ nrOf ps tu rows, 0 ≤ v ∧ v ≤ Dl.mx rows := by
  have q := nrs_val h.dn (goingOf ps tu).length (Nat.le_refl _)
  rw [wySt_all] at q
  exact q
theorem Good.nrl (h : Good names ps tu rows) : rows.length ≤ (nrOf ps tu rows).length ∧ (nrOf ps tu rows).length ≤ 252 := by
  have q := nr_bound (rows := rows) h.wk
  have := h.rl
  have := h.n12
  exact ⟨nr_ge, by show (nodeRowsOf rows (wyOf ps tu rows)).length ≤ 252; omega⟩
theorem Good.nrne (h : Good names ps tu rows) : nrOf ps tu rows ≠ [] := fun z => by
  have q := h.nrl.1
  rw [z] at q
  exact h.ne (List.length_eq_zero_iff.mp (Nat.le_zero.mp q))
theorem Good.mxe (h : Good names ps tu rows) : Dl.mx (nrOf ps tu rows) = Dl.mx rows := by
  refine (mx_eq ?_ fun y hy => (h.val.2 y hy).2).symm
  obtain ⟨t, ht⟩ := nr_pre rows (wyOf ps tu rows) rows
  show Dl.mx rows ∈ List.foldl (nrStep rows) rows _
  rw [ht]
  exact List.mem_append_left _ (mx_mem h.ne)
theorem Good.take (h : Good names ps tu rows) : (nrOf ps tu rows).take names.length = rows := by
  obtain ⟨t, ht⟩ := nr_pre rows (wyOf ps tu rows) rows
  show (List.foldl (nrStep rows) rows _).take _ = rows
  rw [ht, ← h.rl, List.take_left]
theorem in_rows_eq {nr : List Int} (h0 : 0 ≤ Dl.mx rows) (hv : ∀ v ∈ nr, 0 ≤ v ∧ v ≤ Dl.mx rows) : inRowsOf nr rows = (List.range (Dl.mx rows + 1).toNat).map fun i : Nat => inRow nr (i : Int) := by
  obtain ⟨a, b⟩ := ir_fold (enumL nr) (List.replicate (Dl.mx rows + 1).toNat []) fun x hx => by
    have q := hv x.2 (ir_val hx)
    rw [List.length_replicate]
    omega
  rw [List.length_replicate] at a b
  unfold inRowsOf
  refine List.ext_getElem? fun i => ?_
  by_cases hi : i < (Dl.mx rows + 1).toNat
  · have q := b i hi
    rw [List.getElem?_map, List.getElem?_range hi]
    rw [List.getD_eq_getElem?_getD, List.getElem?_eq_getElem (by rw [a]; exact hi), List.getD_eq_getElem?_getD, List.getElem?_replicate, if_pos hi] at q
    rw [List.getElem?_eq_getElem (by rw [a]; exact hi)]
    exact congrArg some q
  · rw [List.getElem?_eq_none (by rw [a]; omega), List.getElem?_eq_none (by rw [List.length_map, List.length_range]; omega)]
theorem Good.lines (h : Good names ps tu rows) : inRowsOf (nrOf ps tu rows) rows = (List.range (Dl.mx (nrOf ps tu rows) + 1).toNat).map fun i : Nat => inRow (nrOf ps tu rows) (i : Int) := by
  rw [h.mxe]
  exact in_rows_eq h.mx.1 h.val.2
theorem inRow_len {nr : List Int} {r : Int} : (inRow nr r).length ≤ nr.length := by
  unfold inRow
  rw [List.length_map]
  exact Nat.le_trans (List.length_filter_le _ _) (by rw [enumL_length]; exact Nat.le_refl _)
end

/-! ### the numbers -/
abbrev shG (N S : Addr) (names : List Str) (ps : List (Int × Int)) (tu rows : List Int) : Dt := shOf S (netD N names ps) ps tu rows
def R_numbers (N S : Addr) (ds : List Dt) (d : Dt) : Prop := ∃ (names : List Str) (ps : List (Int × Int)) (tu rows : List Int), ds = [shG N S names ps tu rows, LS names, LP ps, LI tu, LI rows] ∧ Good names ps tu rows ∧ d = .bl true
theorem ok_law_numbers_right {f : Addr} {fd : FuncData} (F : Fun K "_law_numbers_right" "_law_numbers_right" s_law_numbers_right f fd) (T : Gb K mg N S) (c__law_ways : Cal P w K mg base "_law_ways" ["_law_arrows_here", "_law_turned_here", "_law_rows_here"] 2 (spN R_ways))
    (c__law_node_rows : Cal P w K mg base "_law_node_rows" ["_law_rows_here", "_law_ways_here"] 1 (spN R_node_rows)) (c__law_bend_arrows : Cal P w K mg base "_law_bend_arrows" ["_law_rows_here", "_law_ways_here"] 1 (spN R_bends))
    (m_names : CalM P w K mg base N "names" ["self"] 1 (spN (R_Net_names N))) (m_arrows : CalM P w K mg base N "arrows" ["self"] 1 (spN (R_Net_arrows N))) (m_net : CalM P w K mg base S "net" ["self"] 1 (spD (R_sh_net S)))
    (m_many_rows : CalM P w K mg base S "many_rows" ["self"] 1 (spD (R_sh_many_rows S))) (m_many_nodes : CalM P w K mg base S "many_nodes" ["self"] 1 (spD (R_sh_many_nodes S))) (m_row_of : CalM P w K mg base S "row_of" ["self", "node"] 2 (spD (R_sh_row_of S)))
    (m_arrow_of : CalM P w K mg base S "arrow_of" ["self", "node"] 2 (spD (R_sh_arrow_of S))) :
    FnOk P w K mg base CX0 3 f fd ["_law_sheet", "_law_names_here", "_law_arrows_here", "_law_turned_here", "_law_rows_here"] (spD (R_numbers N S)) := by
  refine fn_dat F sc_law_numbers_right (by rintro _ _ ⟨_, _, _, _, rfl, _⟩; rfl) fun cdv A outer s H E hr ds d h => ?_
  obtain ⟨names, ps, tu, rows, rfl, hg, rfl⟩ := h
  have hrl := hg.rl
  have hn := hg.n12
  have hno : ∀ {m : Str}, (m == fN) = false → (m == fT) = false → (m == fR) = false → (m == fA) = false → (m == fW) = false → (shF (netD N names ps) (srt tu) (nrOf ps tu rows) (baOf ps tu rows) (wyOf ps tu rows)).lookup m = none := fun h1 h2 h3 h4 h5 => s_no h1 h2 h3 h4 h5
  refine ⟨_, (pss_cons (ps_set (i := 5) sc_law_numbers_right.nd rfl (.inl rfl) (pe_callC c__law_ways (hr.mono (by decide)) (by rfl) (pa_cons (pv 2) (pa_cons (pv 3) (pa_cons (pv 4) pa_nil)))))
      (pss_cons (ps_set (i := 6) sc_law_numbers_right.nd rfl (.inl rfl) (pe_callC c__law_node_rows (hr.mono (by decide)) (by rfl) (pa_cons (pv 4) (pa_cons (pv 5) pa_nil))))
      (pss_cons (ps_set (i := 7) sc_law_numbers_right.nd rfl (.inl rfl) (pe_callC c__law_bend_arrows (hr.mono (by decide)) (by rfl) (pa_cons (pv 4) (pa_cons (pv 5) pa_nil))))
      (pss_cons (ps_if (PW.pt (pw_or (pt_cmpR (neK (K := K) rfl hr.units) (pe_methC0 m_names T.clN (hr.mono (by decide)) (pe_methC0 m_net T.clS (hr.mono (by decide)) (pv 0))) (pv 1) (nomark _)) (pw_or1 (pt_cmpR (neK (K := K) rfl hr.units) (pe_methC0 m_arrows T.clN (hr.mono (by decide)) (pe_methC0 m_net T.clS (hr.mono (by decide)) (pv 0))) (pv 2) (nomark _)))))
        (pss_one (ps_ret pe_bl))
        pss_nil)
      (pss_cons (ps_if (PW.pt (pw_or (pt_cmpR (neK (K := K) rfl hr.units) (pe_methC0 m_many_rows T.clS (hr.mono (by decide)) (pv 0)) (pe_op op_addA (pe_callB (maxK (K := K) rfl rfl) (by rfl) T.max b_max (pa_cons (pv 4) pa_nil)) pe_int) (nomark _)) (pw_or1 (pt_cmpR (neK (K := K) rfl hr.units) (pe_methC0 m_many_nodes T.clS (hr.mono (by decide)) (pv 0)) (pe_callB (lenK (K := K) rfl) (by rfl) T.len b_len (pa_cons (pv 6) pa_nil)) (nomark _)))))
        (pss_one (ps_ret pe_bl))
        pss_nil)
      (pss_cons (ps_for PassesOwn.never rfl (pi_enumA (by rfl) T.enumerate (pa_cons (pv 6) pa_nil)) (pg_tupK (K := K) (n := 2) rfl rfl (pgs_cons (pg_name (i := 8) sc_law_numbers_right.nd rfl (.inl rfl)) (pgs_cons (pg_name (i := 9) sc_law_numbers_right.nd rfl (.inl rfl)) pgs_nil)))
        (pss_one (ps_if (PW.pt (pw_or (pt_cmpR (neK (K := K) rfl hr.units) (pe_methC m_row_of T.clS (hr.mono (by decide)) (pv 0) (pa_cons (pv 8) pa_nil)) (pv 9) (nomark _)) (pw_or1 (pt_cmpR (neK (K := K) rfl hr.units) (pe_methC m_arrow_of T.clS (hr.mono (by decide)) (pv 0) (pa_cons (pv 8) pa_nil)) (pe_ix (ixK (K := K) rfl) (pv 7) (pv 8) (fun _ _ => rfl)) (nomark _)))))
          (pss_one (ps_ret pe_bl))
          pss_nil)))
      (pss_one (ps_ret pe_bl)))))))), ?_⟩
  try dsimp only [L2.cxOf, L2.Cx.nox, L2.Cx.wish]
  refine blk_set (d := L LI (wyOf ps tu rows)) (EvN.e (evn_call (RN := R_ways) (by walk_at "ev") ⟨names.length, ps, tu, rows, rfl, hg.dn, hn, hg.pl, rfl⟩)) ?_
  refine blk_set (d := LI (nrOf ps tu rows)) (EvN.e (evn_call (RN := R_node_rows) (by walk_at "ev") ⟨rows, _, rfl, hg.wk, by omega, rfl⟩)) ?_
  refine blk_set (d := L O (baOf ps tu rows)) (EvN.e (evn_call (RN := R_bends) (by walk_at "ev") ⟨rows, _, rfl, hg.wk, by omega, rfl⟩)) ?_
  have hnet : ∀ {o : Ow} {en : En}, en[0]? = some (some (shG N S names ps tu rows)) → Ev (tMeth S "net" (spD (R_sh_net S)) [] E0 (tVar 0) tNil) o en (netD N names ps) := fun h =>
    ev_meth (R := R_sh_net S) (ev_var h) (hno (by decide +kernel) (by decide +kernel) (by decide +kernel) (by decide +kernel) (by decide +kernel)) ea_nil ⟨netD N names ps, srt tu, nrOf ps tu rows, baOf ps tu rows, wyOf ps tu rows, rfl, rfl⟩
  refine blk_ifr (c := false) (EvT.to (et_or (a := false) (b := false) (EvT.to (et_test (Ev.b (ev_ne (u := names) (v := names) (enc_L enc_str) (Ev.b (EvN.e (evn_meth (RN := R_Net_names N) (hnet rfl) (nf_no (by decide +kernel) (by decide +kernel) names ps) ea_nil ⟨names, ps, rfl, rfl⟩))) (Ev.b (ev_var rfl)) (lay_strs fun x hx => (hg.nm.2.2.2 x hx).sok) (lay_strs fun x hx => (hg.nm.2.2.2 x hx).sok)))) (by rw [decide_eq_true rfl]; rfl)) fun _ =>
    EvT.to (et_test (Ev.b (ev_ne (u := ps) (v := ps) (enc_L enc_PR) (Ev.b (EvN.e (evn_arrows (hnet rfl)))) (Ev.b (ev_var rfl)) lay_PRs lay_PRs))) (by rw [decide_eq_true rfl]; rfl)) rfl) (fun hc => by cases hc) fun _ => ?_
  refine blk_ifr (c := false) (EvT.to (et_or (a := false) (b := false) (EvT.to (et_test (Ev.b (ev_ne (u := mx (nrOf ps tu rows) + 1) (v := mx rows + 1) enc_int (Ev.b (ev_meth (R := R_sh_many_rows S) (ev_var rfl) (hno (by decide +kernel) (by decide +kernel) (by decide +kernel) (by decide +kernel) (by decide +kernel)) ea_nil ⟨netD N names ps, srt tu, nrOf ps tu rows, baOf ps tu rows, wyOf ps tu rows, rfl, hg.nrne, rfl⟩)) (Ev.b (ev_add (Ev.b (ev_maxL (ns := rows) (Ev.b (ev_var rfl)) hg.ne)) (Ev.b ev_int))) lay_int lay_int))) (by rw [hg.mxe, decide_eq_true rfl]; rfl)) fun _ =>
    EvT.to (et_test (Ev.b (ev_ne (u := ((nrOf ps tu rows).length : Int)) (v := ((nrOf ps tu rows).length : Int)) enc_int (Ev.b (ev_meth (R := R_sh_many_nodes S) (ev_var rfl) (hno (by decide +kernel) (by decide +kernel) (by decide +kernel) (by decide +kernel) (by decide +kernel)) ea_nil ⟨netD N names ps, srt tu, nrOf ps tu rows, baOf ps tu rows, wyOf ps tu rows, rfl, rfl⟩)) (Ev.b (ev_len (f := Dt.int) (us := nrOf ps tu rows) (Ev.b (ev_var rfl)))) lay_int lay_int))) (by rw [decide_eq_true rfl]; rfl)) rfl) (fun hc => by cases hc) fun _ => ?_
  refine blk_seq (sd_fold (fun (s : Unit) _ => s) () (fun _ => noO) (fun _ => [some (shG N S names ps tu rows), some (LS names), some (LP ps), some (LI tu), some (LI rows), some (L LI (wyOf ps tu rows)), some (LI (nrOf ps tu rows)), some (L O (baOf ps tu rows)), none, none]) (it_enumL (us := nrOf ps tu rows) (ev_var rfl)) rfl (by walk_at "le") ?_) (blk_ret ev_bl)
  intro i x hx s hs
  obtain ⟨e1, e2⟩ := enumL_take _ i x hx
  have hil : i < (nrOf ps tu rows).length := (List.getElem?_eq_some_iff.mp e2).1
  have hat : at_ (nrOf ps tu rows) (x.1 : Int) = x.2 := by
    have q := at_get (s := nrOf ps tu rows) (b := (x.1 : Int)) (by omega) (by omega)
    rw [Int.toNat_natCast, e1, e2] at q
    rw [e1]
    exact (Option.some.inj q).symm
  refine ⟨_, _, tg_pair (tg_name (nin rfl)) (tg_name (nin rfl)), ?_⟩
  refine Sd.weak (sd_no (EvT.to (et_or (a := false) (b := false) (EvT.to (et_test (Ev.b (ev_ne (u := at_ (nrOf ps tu rows) (x.1 : Int)) (v := x.2) enc_int (Ev.b (ev_meth (R := R_sh_row_of S) (ev_var rfl) (hno (by decide +kernel) (by decide +kernel) (by decide +kernel) (by decide +kernel) (by decide +kernel)) (ea_cons (ev_var rfl) ea_nil) ⟨netD N names ps, srt tu, nrOf ps tu rows, baOf ps tu rows, wyOf ps tu rows, _, rfl, by omega, by omega, rfl⟩)) (Ev.b (ev_var rfl)) lay_int lay_int))) (by rw [hat, decide_eq_true rfl]; rfl)) fun _ =>
    EvT.to (et_test (Ev.b (ev_ne (u := atO (baOf ps tu rows) (x.1 : Int)) (v := atO (baOf ps tu rows) (x.1 : Int)) enc_O (Ev.b (ev_meth (R := R_sh_arrow_of S) (ev_var rfl) (hno (by decide +kernel) (by decide +kernel) (by decide +kernel) (by decide +kernel) (by decide +kernel)) (ea_cons (ev_var rfl) ea_nil) ⟨netD N names ps, srt tu, nrOf ps tu rows, baOf ps tu rows, wyOf ps tu rows, _, rfl, by omega, by omega, hg.val.1, rfl⟩)) (Ev.b (ev_ix (f := O) (us := baOf ps tu rows) (ev_var rfl) (Ev.b (ev_var rfl)) (by omega) (atO_get (by omega) (by rw [hg.val.1]; omega)))) lay_O lay_O))) (by rw [decide_eq_true rfl]; rfl)) rfl)) (by walk_at "le")

/-! ### the lists -/
theorem list_test {j : Nat} {t1 : TS} {D : Ends} {σ : St} {H : Hp} {q : Addr} {xs : List V} (e : σ[j]? = some (some (.ref q))) (h : H q = some (.lst xs)) (k : D.nx σ H) : tIfS (tNot (tB (tCB (rIsi K) (tCons (tVar j) (tCons (tC (.ty "list")) tNil))))) t1 tNext D σ H :=
  ⟨.ref q, e, .ref q, .ty "list", .type "list", .type "list", true, rfl, .ty "list", .base (.lst h), kit_ty (by decide +kernel), true, rfl, iteF k⟩
theorem is_l {α : Type} [DecidableEq α] {f : α → Dt} {n : Nat} {us : List α} (hf : Enc f n) (hl : us.length ≤ 10000) (l : Lay (L f us)) : R_is_list (us.map f) (us.map f) :=
  ⟨l, l, ((enc_L hf).eq us us).trans (decide_eq_true rfl), by rw [List.length_map]; exact hl⟩
def R_lists (N S : Addr) (ds : List Dt) (d : Dt) : Prop := ∃ (names : List Str) (ps : List (Int × Int)) (tu rows : List Int), ds = [shG N S names ps tu rows, LP ps, LI tu, LI rows] ∧ Good names ps tu rows ∧ d = .bl true
theorem ok_law_lists_right {f : Addr} {fd : FuncData} (F : Fun K "_law_lists_right" "_law_lists_right" s_law_lists_right f fd) (T : Gb K mg N S) (c__law_ways : Cal P w K mg base "_law_ways" ["_law_arrows_here", "_law_turned_here", "_law_rows_here"] 2 (spN R_ways))
    (c__law_node_rows : Cal P w K mg base "_law_node_rows" ["_law_rows_here", "_law_ways_here"] 1 (spN R_node_rows)) (c__law_in_rows : Cal P w K mg base "_law_in_rows" ["_law_node_rows_here", "_law_rows_here"] 1 (spD R_in_rows))
    (c_first_order : Cal P w K mg base "first_order" ["sheet"] 3 (spL (R_first_order S))) (c__law_is_list : Cal P w K mg base "_law_is_list" ["_law_told", "_law_due"] 1 (spSpoil R_is_list)) (c__law_pieces : Cal P w K mg base "_law_pieces" ["_law_ways_here"] 1 (spN R_pieces))
    (m_nodes_in : CalM P w K mg base S "nodes_in" ["self", "row"] 2 (spN (R_sh_nodes_in S))) (m_way : CalM P w K mg base S "way" ["self", "arrow"] 1 (spN (R_sh_way S))) (m_pieces : CalM P w K mg base S "pieces" ["self"] 1 (spN (R_sh_pieces S)))
    (m_rows : CalM P w K mg base S "rows" ["self"] 2 (spN (R_sh_rows N S))) (m_turned : CalM P w K mg base S "turned" ["self"] 1 (spN (R_sh_turned S))) :
    FnOk P w K mg base CX0 4 f fd ["_law_sheet", "_law_arrows_here", "_law_turned_here", "_law_rows_here"] (spD (R_lists N S)) := by
  refine fn_dat F sc_law_lists_right (by rintro _ _ ⟨_, _, _, _, rfl, _⟩; rfl) fun cdv A outer s H E hr ds d h => ?_
  obtain ⟨names, ps, tu, rows, rfl, hg, rfl⟩ := h
  have hrl := hg.rl
  have hn := hg.n12
  have hmx := hg.mx
  have hmxe := hg.mxe
  have hnrl := hg.nrl
  have hno : ∀ {m : Str}, (m == fN) = false → (m == fT) = false → (m == fR) = false → (m == fA) = false → (m == fW) = false → (shF (netD N names ps) (srt tu) (nrOf ps tu rows) (baOf ps tu rows) (wyOf ps tu rows)).lookup m = none := fun h1 h2 h3 h4 h5 => s_no h1 h2 h3 h4 h5
  have hnol : ∀ ns ∈ inRowsOf (nrOf ps tu rows) rows, ns.length ≤ 252 := fun ns hns => by
    rw [hg.lines] at hns
    obtain ⟨j, _, rfl⟩ := List.mem_map.mp hns
    exact Nat.le_trans inRow_len hnrl.2
  have hll : (inRowsOf (nrOf ps tu rows) rows).length = (mx rows + 1).toNat := by rw [hg.lines, List.length_map, List.length_range, hmxe]
  refine ⟨_, (pss_cons (ps_set (i := 4) sc_law_lists_right.nd rfl (.inl rfl) (pe_callC c__law_ways (hr.mono (by decide)) (by rfl) (pa_cons (pv 1) (pa_cons (pv 2) (pa_cons (pv 3) pa_nil)))))
      (pss_cons (ps_set (i := 5) sc_law_lists_right.nd rfl (.inl rfl) (pe_callC c__law_in_rows (hr.mono (by decide)) (by rfl) (pa_cons (pe_callC c__law_node_rows (hr.mono (by decide)) (by rfl) (pa_cons (pv 3) (pa_cons (pv 4) pa_nil))) (pa_cons (pv 3) pa_nil))))
      (pss_cons (ps_set (i := 6) sc_law_lists_right.nd rfl (.inl rfl) (pe_callC c_first_order (hr.mono (by decide)) (by rfl) (pa_cons (pv 0) pa_nil)))
      (pss_cons (ps_if (PW.pt (pw_or (pt_cmpR (neK (K := K) rfl hr.units) (pv 6) (pv 5) (nomark _)) (pw_or1 (pt_not (pt_val (pe_callB (isiK (K := K) rfl) (by rfl) T.isinstance b_isinstance (pa_cons (pv 6) (pa_cons (pe_bltn (v := .ty "list") (by rfl) T.list b_list rfl) pa_nil))))))))
        (pss_one (ps_ret pe_bl))
        pss_nil)
      (pss_cons (ps_for PassesOwn.never rfl (pi_any (pv 6)) (pg_name (i := 7) sc_law_lists_right.nd rfl (.inl rfl))
        (pss_cons (ps_if (pt_not (pt_val (pe_callB (isiK (K := K) rfl) (by rfl) T.isinstance b_isinstance (pa_cons (pv 7) (pa_cons (pe_bltn (v := .ty "list") (by rfl) T.list b_list rfl) pa_nil)))))
          (pss_one (ps_ret pe_bl))
          pss_nil)
        (pss_one (ps_expr (pe_bmK (K := K) rfl PySem.F.plainAttrs_list PySem.F.slot_list_append PySem.F.type_list_append mt_append (pv 7) (pa_cons pe_non pa_nil))))))
      (pss_cons (ps_for PassesOwn.never rfl (pi_enumA (by rfl) T.enumerate (pa_cons (pv 5) pa_nil)) (pg_tupK (K := K) (n := 2) rfl rfl (pgs_cons (pg_name (i := 8) sc_law_lists_right.nd rfl (.inl rfl)) (pgs_cons (pg_name (i := 7) sc_law_lists_right.nd rfl (.inl rfl)) pgs_nil)))
        (pss_one (ps_if (pt_not (pt_val (pe_callC c__law_is_list (hr.mono (by decide)) (by rfl) (pa_cons (pe_methC m_nodes_in T.clS (hr.mono (by decide)) (pv 0) (pa_cons (pv 8) pa_nil)) (pa_cons (pv 7) pa_nil)))))
          (pss_one (ps_ret pe_bl))
          pss_nil)))
      (pss_cons (ps_for PassesOwn.never rfl (pi_enumA (by rfl) T.enumerate (pa_cons (pv 4) pa_nil)) (pg_tupK (K := K) (n := 2) rfl rfl (pgs_cons (pg_name (i := 9) sc_law_lists_right.nd rfl (.inl rfl)) (pgs_cons (pg_name (i := 10) sc_law_lists_right.nd rfl (.inl rfl)) pgs_nil)))
        (pss_one (ps_if (pt_not (pt_val (pe_callC c__law_is_list (hr.mono (by decide)) (by rfl) (pa_cons (pe_methC m_way T.clS (hr.mono (by decide)) (pv 0) (pa_cons (pv 9) pa_nil)) (pa_cons (pv 10) pa_nil)))))
          (pss_one (ps_ret pe_bl))
          pss_nil)))
      (pss_cons (ps_if (PW.pt (pw_or (pt_not (pt_val (pe_callC c__law_is_list (hr.mono (by decide)) (by rfl) (pa_cons (pe_methC0 m_pieces T.clS (hr.mono (by decide)) (pv 0)) (pa_cons (pe_callC c__law_pieces (hr.mono (by decide)) (by rfl) (pa_cons (pv 4) pa_nil)) pa_nil))))) (pw_or1 (pt_not (pt_val (pe_callC c__law_is_list (hr.mono (by decide)) (by rfl) (pa_cons (pe_methC0 m_rows T.clS (hr.mono (by decide)) (pv 0)) (pa_cons (pv 3) pa_nil))))))))
        (pss_one (ps_ret pe_bl))
        pss_nil)
      (pss_one (ps_ret (pe_callC c__law_is_list (hr.mono (by decide)) (by rfl) (pa_cons (pe_methC0 m_turned T.clS (hr.mono (by decide)) (pv 0)) (pa_cons (pe_callB (sortK (K := K) rfl) (by rfl) T.sorted b_sorted (pa_cons (pv 2) pa_nil)) pa_nil))))))))))))), ?_⟩
  try dsimp only [L2.cxOf, L2.Cx.nox, L2.Cx.wish]
  refine blk_set (d := L LI (wyOf ps tu rows)) (EvN.e (evn_call (RN := R_ways) (by walk_at "ev") ⟨names.length, ps, tu, rows, rfl, hg.dn, hn, hg.pl, rfl⟩)) ?_
  refine blk_set (d := L LI (inRowsOf (nrOf ps tu rows) rows)) (ev_call (R := R_in_rows) (ea_cons (Ev.to (EvN.e (evn_call (RN := R_node_rows) (by walk_at "ev") ⟨rows, _, rfl, hg.wk, by omega, rfl⟩)) rfl) (ea_cons (ev_var rfl) ea_nil)) ⟨nrOf ps tu rows, rows, rfl, hg.ne, hmx.1, by omega, by omega, hg.val.2, rfl⟩) ?_
  refine blk_seq (sd_setL (nss := inRowsOf (nrOf ps tu rows) rows) (evl_call (R := R_first_order S) (ea_cons (ev_var rfl) ea_nil) ⟨netD N names ps, srt tu, nrOf ps tu rows, baOf ps tu rows, wyOf ps tu rows, rfl, hg.nrne, by omega, by omega, by omega, hg.lines⟩) (by show 6 < 11; decide)) ?_
  refine blk_ifr (c := false) (EvT.to (et_or (a := false) (b := false) (EvT.to (et_test (Ev.b (ev_ne (u := inRowsOf (nrOf ps tu rows) rows) (v := inRowsOf (nrOf ps tu rows) rows) (enc_L (enc_L enc_int)) evb_oll (Ev.b (ev_var rfl)) lay_iss lay_iss))) (by rw [decide_eq_true rfl]; rfl)) fun _ =>
    EvT.to (et_not (et_B (b := true) (Ev.b (ev_isi (d := L LI (inRowsOf (nrOf ps tu rows) rows)) (n := "list") evb_oll rfl (by decide +kernel))))) rfl) rfl) (fun hc => by cases hc) fun _ => ?_
  refine blk_seq (sd_spoilL (i := 6) (j := 7) (en' := [some (shG N S names ps tu rows), some (LP ps), some (LI tu), some (LI rows), some (L LI (wyOf ps tu rows)), some (L LI (inRowsOf (nrOf ps tu rows) rows)), none, none, none, none, none]) (by decide) (fun ns hns => by have := hnol ns hns; omega) (by rw [hll]; omega) (fun D σ H q xs h1 h2 h3 => list_test h1 h2 h3) (by walk_at "le") (by show 7 < 11; decide) (fun d z => by cases z)) ?_
  refine blk_seq (sd_fold (fun (s : Unit) _ => s) () (fun _ => noO) (fun _ => [some (shG N S names ps tu rows), some (LP ps), some (LI tu), some (LI rows), some (L LI (wyOf ps tu rows)), none, none, none, none, none, none]) (it_enumL (us := inRowsOf (nrOf ps tu rows) rows) (f := LI) (ev_var rfl)) rfl (by walk_at "le") ?_) ?_
  · intro i x hx s hs
    obtain ⟨e1, e2⟩ := enumL_take _ i x hx
    have hil := (List.getElem?_eq_some_iff.mp e2).1
    rw [hll] at hil
    have hxe : x.2 = inRow (nrOf ps tu rows) (x.1 : Int) := by
      rw [hg.lines, List.getElem?_map, List.getElem?_range (by rw [hmxe]; exact hil)] at e2
      rw [e1]
      exact (Option.some.inj e2).symm
    refine ⟨_, _, tg_pair (tg_name (nin rfl)) (tg_name (nin rfl)), ?_⟩
    exact Sd.weak (sd_no (EvT.to (et_not (et_B (b := true) (Ev.b (ev_spoil (R := R_is_list) (es := x.2.map .int) (evn_meth (RN := R_sh_nodes_in S) (ev_var rfl) (hno (by decide +kernel) (by decide +kernel) (by decide +kernel) (by decide +kernel) (by decide +kernel)) (ea_cons (ev_var rfl) ea_nil) ⟨netD N names ps, srt tu, nrOf ps tu rows, baOf ps tu rows, wyOf ps tu rows, (x.1 : Int), rfl, hg.nrne, by omega, by omega, by rw [hmxe]; omega, by rw [hxe]⟩) (ev_var rfl) (is_l enc_int (by have := hnol x.2 (List.mem_of_getElem? e2); omega) lay_ints))))) rfl)) (by walk_at "le")
  refine blk_seq (sd_fold (fun (s : Unit) _ => s) () (fun _ => noO) (fun _ => [some (shG N S names ps tu rows), some (LP ps), some (LI tu), some (LI rows), some (L LI (wyOf ps tu rows)), none, none, none, none, none, none]) (it_enumL (us := wyOf ps tu rows) (f := LI) (ev_var rfl)) rfl (by walk_at "le") ?_) ?_
  · intro i x hx s hs
    obtain ⟨e1, e2⟩ := enumL_take _ i x hx
    have hil := (List.getElem?_eq_some_iff.mp e2).1
    have hw := (hg.wk.each x.2 (List.mem_of_getElem? e2)).2.1
    refine ⟨_, _, tg_pair (tg_name (nin rfl)) (tg_name (nin rfl)), ?_⟩
    exact Sd.weak (sd_no (EvT.to (et_not (et_B (b := true) (Ev.b (ev_spoil (R := R_is_list) (es := x.2.map .int) (evn_meth (RN := R_sh_way S) (ev_var rfl) (hno (by decide +kernel) (by decide +kernel) (by decide +kernel) (by decide +kernel) (by decide +kernel)) (ea_cons (ev_var rfl) ea_nil) ⟨netD N names ps, srt tu, nrOf ps tu rows, baOf ps tu rows, wyOf ps tu rows, (x.1 : Int), x.2, rfl, by omega, by omega, by rw [Int.toNat_natCast, e1]; exact e2, rfl⟩) (ev_var rfl) (is_l enc_int (by omega) lay_ints))))) rfl)) (by walk_at "le")
  have hpl : (piecesOf (wyOf ps tu rows)).length ≤ 288 := by
    have q := pc_len (wyOf ps tu rows) [] fun v hv => (hg.wk.each v hv).2.1
    have := hg.wk.len
    have q' : (piecesOf (wyOf ps tu rows)).length ≤ 0 + 12 * (wyOf ps tu rows).length := q
    omega
  refine blk_ifr (c := false) (EvT.to (et_or (a := false) (b := false) (EvT.to (et_not (et_B (b := true) (Ev.b (ev_spoil (R := R_is_list) (es := (piecesOf (wyOf ps tu rows)).map PR) (evn_meth (RN := R_sh_pieces S) (ev_var rfl) (hno (by decide +kernel) (by decide +kernel) (by decide +kernel) (by decide +kernel) (by decide +kernel)) ea_nil ⟨netD N names ps, srt tu, nrOf ps tu rows, baOf ps tu rows, wyOf ps tu rows, rfl, hg.wk.len, fun v hv => (hg.wk.each v hv).2.1, rfl⟩)
      (EvN.e (evn_call (RN := R_pieces) (by walk_at "ev") ⟨_, rfl, hg.wk.len, fun v hv => (hg.wk.each v hv).2.1, rfl⟩)) (is_l enc_PR (by omega) lay_PRs))))) rfl) fun _ =>
    EvT.to (et_not (et_B (b := true) (Ev.b (ev_spoil (R := R_is_list) (es := rows.map .int) (evn_meth (RN := R_sh_rows N S) (ev_var rfl) (hno (by decide +kernel) (by decide +kernel) (by decide +kernel) (by decide +kernel) (by decide +kernel)) ea_nil ⟨names, ps, srt tu, nrOf ps tu rows, baOf ps tu rows, wyOf ps tu rows, rfl, by rw [hg.take]⟩) (ev_var rfl) (is_l enc_int (by omega) lay_ints))))) rfl) rfl) (fun hc => by cases hc) fun _ => ?_
  exact blk_ret (ev_spoil (R := R_is_list) (es := (srt tu).map .int) (evn_meth (RN := R_sh_turned S) (ev_var rfl) (hno (by decide +kernel) (by decide +kernel) (by decide +kernel) (by decide +kernel) (by decide +kernel)) ea_nil ⟨netD N names ps, srt tu, nrOf ps tu rows, baOf ps tu rows, wyOf ps tu rows, rfl, rfl⟩) (EvN.e (ev_sorted (ns := tu) (Ev.b (ev_var rfl)))) (is_l enc_int (by rw [(srt_perm tu).length_eq]; have := hg.tl; omega) lay_ints))
def R_right (N S : Addr) (ds : List Dt) (d : Dt) : Prop := ∃ (names : List Str) (ps : List (Int × Int)) (tu rows : List Int), ds = [shG N S names ps tu rows, LS names, LP ps, T2 LI LI (tu, rows)] ∧ Good names ps tu rows ∧ d = .bl true
theorem ok_law_right {f : Addr} {fd : FuncData} (F : Fun K "_law_right" "_law_right" s_law_right f fd) (T : Gb K mg N S) (c__law_numbers_right : Cal P w K mg base "_law_numbers_right" ["_law_sheet", "_law_names_here", "_law_arrows_here", "_law_turned_here", "_law_rows_here"] 3 (spD (R_numbers N S)))
    (c__law_lists_right : Cal P w K mg base "_law_lists_right" ["_law_sheet", "_law_arrows_here", "_law_turned_here", "_law_rows_here"] 4 (spD (R_lists N S))) : FnOk P w K mg base CX0 5 f fd ["_law_sheet", "_law_names_here", "_law_arrows_here", "_law_dealt_here"] (spD (R_right N S)) := by
  refine fn_dat F sc_law_right (by rintro _ _ ⟨_, _, _, _, rfl, _⟩; rfl) fun cdv A outer s H E hr ds d h => ?_
  obtain ⟨names, ps, tu, rows, rfl, hg, rfl⟩ := h
  refine ⟨_, (pss_cons (ps_for PassesOwn.never rfl (pi_range1 (by rfl) T.range (pa_cons pe_int pa_nil)) (pg_name (i := 4) sc_law_right.nd rfl (.inl rfl))
        (pss_cons (ps_if (pt_not (pt_val (pe_callC c__law_numbers_right (hr.mono (by decide)) (by rfl) (pa_cons (pv 0) (pa_cons (pv 1) (pa_cons (pv 2) (pa_cons (pe_ix (ixK (K := K) rfl) (pv 3) pe_int (fun _ _ => rfl)) (pa_cons (pe_ix (ixK (K := K) rfl) (pv 3) pe_int (fun _ _ => rfl)) pa_nil))))))))
          (pss_one (ps_ret pe_bl))
          pss_nil)
        (pss_one (ps_if (pt_not (pt_val (pe_callC c__law_lists_right (hr.mono (by decide)) (by rfl) (pa_cons (pv 0) (pa_cons (pv 2) (pa_cons (pe_ix (ixK (K := K) rfl) (pv 3) pe_int (fun _ _ => rfl)) (pa_cons (pe_ix (ixK (K := K) rfl) (pv 3) pe_int (fun _ _ => rfl)) pa_nil)))))))
          (pss_one (ps_ret pe_bl))
          pss_nil))))
      (pss_one (ps_ret pe_bl))), ?_⟩
  try dsimp only [L2.cxOf, L2.Cx.nox, L2.Cx.wish]
  refine blk_seq (sd_fold (fun (s : Unit) _ => s) () (fun _ => noO) (fun _ => [some (shG N S names ps tu rows), some (LS names), some (LP ps), some (T2 LI LI (tu, rows)), none]) (it_rng (a := 2) (Ev.b ev_int) (by decide) (by decide)) rfl (by walk_at "le") ?_) (blk_ret ev_bl)
  intro i x hx s hs
  refine ⟨_, _, tg_name (nin rfl), ?_⟩
  refine sd_seq (sd_no (EvT.to (et_not (et_B (b := true) (Ev.b (ev_call (R := R_numbers N S) (ea_cons (ev_var rfl) (ea_cons (ev_var rfl) (ea_cons (ev_var rfl) (ea_cons (ev_fst (f := LI) (g' := LI) (p := (tu, rows)) (ev_var rfl)) (ea_cons (ev_snd (f := LI) (g' := LI) (p := (tu, rows)) (ev_var rfl)) ea_nil))))) ⟨names, ps, tu, rows, rfl, hg, rfl⟩)))) rfl)) ?_
  exact Sd.weak (sd_no (EvT.to (et_not (et_B (b := true) (Ev.b (ev_call (R := R_lists N S) (ea_cons (ev_var rfl) (ea_cons (ev_var rfl) (ea_cons (ev_fst (f := LI) (g' := LI) (p := (tu, rows)) (ev_var rfl)) (ea_cons (ev_snd (f := LI) (g' := LI) (p := (tu, rows)) (ev_var rfl)) ea_nil)))) ⟨names, ps, tu, rows, rfl, hg, rfl⟩)))) rfl)) (by walk_at "le")

end
end Dl

namespace Dl
open PySem L2
local macro_rules | `(tactic| walk_at "le") => `(tactic| repeat (first | exact LeE.nil | refine LeE.keep ?_ | refine LeE.drop ?_))
local macro_rules | `(tactic| walk_at "e") => `(tactic| first
  | (with_reducible apply Ev.b); walk_at "e"
  | (with_reducible apply ev_var); exact rfl
  | with_reducible apply ev_int
  | with_reducible apply ev_str
  | with_reducible apply ev_bl
  | with_reducible apply ev_non
  | with_reducible apply evb_own
  | ((with_reducible apply ev_add) <;> walk_at "e")
  | ((with_reducible apply ev_sub) <;> walk_at "e")
  | ((with_reducible apply ev_mod) <;> first | walk_at "e" | skip)
  | ((with_reducible apply ev_div) <;> first | walk_at "e" | skip)
  | ((with_reducible apply ev_mul) <;> first | walk_at "e" | skip)
  | ((with_reducible apply ev_pow) <;> first | walk_at "e" | skip)
  | ((with_reducible apply ev_lt) <;> walk_at "e")
  | ((with_reducible apply ev_le) <;> walk_at "e")
  | ((with_reducible apply ev_gt) <;> walk_at "e")
  | ((with_reducible apply ev_ge) <;> walk_at "e")
  | ((with_reducible apply ev_len) <;> walk_at "e")
  | ((with_reducible apply ev_lenR) <;> walk_at "e")
  | with_reducible apply ea_nil
  | with_reducible apply eb_nil
  | ((with_reducible apply ea_cons) <;> walk_at "e")
  | ((with_reducible apply eb_cons) <;> walk_at "e")
  | ((with_reducible apply et_test) <;> walk_at "e")
  | ((with_reducible apply et_B) <;> walk_at "e"))
local macro_rules | `(tactic| walk_at "ev") => `(tactic| (walk_at "e" <;> first | done | decide | omega | assumption | exact cmul_l (by decide) (by decide) | exact cmul_r (by decide) (by decide) | exact cpow_mk (by decide) (by decide) (by decide) | exact cdiv_mk (by decide) (by decide)))
section
variable {P : Program} {w : World} {K : PySem.W.Frag} {mg : Str → Option Value} {base : Heap} {N S : Addr}
/-! ### what is handed in: a list of one's own, or a tuple -/
def Hd (k : Bool) (a : Addr) (us : List Int) (H0 F H : Hp) : Prop := match k with
  | true => F a = some (.tup (us.map V.int))
  | false => H0 a = none ∧ F a = none ∧ H a = some (.lst (us.map V.int))
theorem Hd.grow {k : Bool} {a : Addr} {us : List Int} {H0 F H F' H' : Hp} (h : Hd k a us H0 F H) (g : Gr F H F' H') : Hd k a us H0 F' H' := by
  cases k with
  | true => exact g.ff a _ h
  | false =>
    obtain ⟨a1, a2, a3⟩ := h
    exact ⟨a1, g.ap a _ a3 a2, g.hh a _ a3⟩
theorem Hd.dv {k : Bool} {a : Addr} {us : List Int} {H0 F H : Hp} (h : Hd k a us H0 F H) (e : Same F H) : Dv H (.ref a) (Dl.S k .int us) := by
  cases k with
  | true => exact .tup (e a _ h) (Dvs.of (fun i => .int i) us)
  | false => exact .lst h.2.2 (Dvs.of (fun i => .int i) us)
def hd1 (i : Nat) (k : Bool) (us : List Int) : Ow where
  P := fun H0 F σ H => ∃ a, σ[i]? = some (some (.ref a)) ∧ Hd k a us H0 F H
  sl := [i]
  grow := fun ⟨a, e, h⟩ g => ⟨a, e, h.grow g⟩
  slot := fun ⟨a, e, h⟩ k => ⟨a, (k i (List.mem_singleton.mpr rfl)).trans e, h⟩
def hd2 (i j : Nat) (k1 k2 : Bool) (us vs : List Int) : Ow where
  P := fun H0 F σ H => ∃ a b, σ[i]? = some (some (.ref a)) ∧ σ[j]? = some (some (.ref b)) ∧ Hd k1 a us H0 F H ∧ Hd k2 b vs H0 F H ∧ (k1 = false → k2 = false → a ≠ b)
  sl := [i, j]
  grow := fun ⟨a, b, e, e', h, h', n⟩ g => ⟨a, b, e, e', h.grow g, h'.grow g, n⟩
  slot := fun ⟨a, b, e, e', r⟩ k => ⟨a, b, (k i List.mem_cons_self).trans e, (k j (List.mem_cons_of_mem _ List.mem_cons_self)).trans e', r⟩
section
variable {o o1 o2 : Ow} {en en1 en2 : En} {te ta tb tc : TE} {i j : Nat} {t : TA} {us vs : List Int} {kind : Int} {k1 k2 : Bool}
theorem evb_hd1 : EvB (tVar i) (hd1 i k1 us) en (Dl.S k1 .int us) := fun _ _ _ _ _ k Q q => by
  obtain ⟨a, e, h⟩ := k.own
  exact ⟨.ref a, e, q _ _ _ (.refl k.fh) (h.dv k.fh)⟩
theorem evb_hd2a : EvB (tVar i) (hd2 i j k1 k2 us vs) en (Dl.S k1 .int us) := fun _ _ _ _ _ k Q q => by
  obtain ⟨a, b, e, e', h, h', n⟩ := k.own
  exact ⟨.ref a, e, q _ _ _ (.refl k.fh) (h.dv k.fh)⟩
theorem evb_hd2b : EvB (tVar j) (hd2 i j k1 k2 us vs) en (Dl.S k2 .int vs) := fun _ _ _ _ _ k Q q => by
  obtain ⟨a, b, e, e', h, h', n⟩ := k.own
  exact ⟨.ref b, e', q _ _ _ (.refl k.fh) (h'.dv k.fh)⟩
/-- _law_handed(..), given away -/
theorem ev_hand (ha : EvA t o en [LI us, .int kind]) : Ev (tCall (spR R_handed) [] E0 t) o en (Dl.S (decide (kind % 2 = 1)) .int us) := by
  by_cases c : kind % 2 = 1
  · rw [decide_eq_true c]
    exact ev_callRet ha ⟨us, kind, rfl, by rw [if_pos c]; rfl⟩
  · rw [decide_eq_false c]
    exact EvN.e (evn_callRet ha ⟨us, kind, rfl, by rw [if_neg c]⟩)
theorem hand_run {F0 H0 F H : Hp} {σ : St} (ha : EvA t o en [LI us, .int kind]) (k : Ok F0 H0 o en F σ H) (Q : VK) (q : ∀ a F' H', Gr F H F' H' → Hd (decide (kind % 2 = 1)) a us H F' H' → Q (.ref a) H') : tCall (spR R_handed) [] E0 t σ H Q := by
  by_cases c : kind % 2 = 1
  · rw [decide_eq_true c] at q
    refine ev_callRet (R := R_handed) (d := .tup (us.map .int)) ha ⟨us, kind, rfl, by rw [if_pos c]⟩ _ _ _ _ _ k Q fun v F' H' g r => ?_
    cases r with
    | tup h hs =>
      cases hs.ints
      exact q _ F' H' g h
  · rw [decide_eq_false c] at q
    refine evn_callRet (R := R_handed) (es := us.map .int) ha ⟨us, kind, rfl, by rw [if_neg c]⟩ _ _ _ _ _ k Q fun p xs F' H' g n0 nf e r => ?_
    cases r.ints
    exact q p F' H' g ⟨n0, nf, e⟩
theorem sd_hand1 (ha : EvA t noO en [LI us, .int kind]) (hi : i < en.length) : Sd (tAsg (tCall (spR R_handed) [] E0 t) (gName i)) noO en (hd1 i (decide (kind % 2 = 1)) us) (en.set i none) := fun D F0 H0 F σ H k q => by
  refine hand_run ha k _ fun a F1 H1 g h => ?_
  have k1 := (k.grow g).setNone (i := i) (v := .ref a) (fun z => (by cases z))
  refine q F1 _ H1 g.ff ⟨k1.gr, k1.env, k1.len, a, List.getElem?_set_self (by rw [k.len]; exact hi), ?_⟩
  generalize decide (kind % 2 = 1) = kk at h
  cases kk with
  | true => exact h
  | false => exact ⟨k.gr.hh.free h.1, h.2⟩
theorem sd_hand2 (ha : EvA t (hd1 i k1 us) en [LI vs, .int kind]) (hj : j < en.length) (hij : i ≠ j) : Sd (tAsg (tCall (spR R_handed) [] E0 t) (gName j)) (hd1 i k1 us) en (hd2 i j k1 (decide (kind % 2 = 1)) us vs) (en.set j none) := fun D F0 H0 F σ H k q => by
  obtain ⟨a, e, h⟩ := k.own
  refine hand_run ha k _ fun b F1 H1 g h' => ?_
  have k1' := (k.grow g).setNone (i := j) (v := .ref b) (fun z => hij (List.mem_singleton.mp z).symm)
  refine q F1 _ H1 g.ff ⟨k1'.gr, k1'.env, k1'.len, a, b, by rw [List.getElem?_set_ne hij.symm]; exact e, List.getElem?_set_self (by rw [k.len]; exact hj), h.grow g, ?_, ?_⟩
  · generalize decide (kind % 2 = 1) = kk at h'
    cases kk with
    | true => exact h'
    | false => exact ⟨k.gr.hh.free h'.1, h'.2⟩
  · intro z1 z2 z3
    rw [z2] at h'
    subst z1
    have h3 := h.2.2
    rw [z3, h'.1] at h3
    cases h3
theorem sd_hclear : Sd (tIfS (tB (tCB (rIsi K) (tCons (tVar i) (tCons (tC (.ty "list")) tNil)))) (tDrop (tBM0 K "list" rClear (tVar i))) tNext) (hd2 i j k1 k2 us vs) en (hd1 j k2 vs) en := by
  cases k1 with
  | true =>
    refine sd_if (c := false) (et_B (Ev.b (ev_isi (d := .tup (us.map .int)) (n := "tuple") evb_hd2a rfl (by decide +kernel)))) (fun z => by cases z) fun _ => fun D F0 H0 F σ H k q => ?_
    obtain ⟨a, b, e, e', h, h', n⟩ := k.own
    exact q F σ H (Same.refl F) ⟨k.gr, k.env, k.len, b, e', h'⟩
  | false =>
    refine sd_if (c := true) (et_B (Ev.b (ev_isi (d := .lst (us.map .int)) (n := "list") evb_hd2a rfl (by decide +kernel)))) (fun _ => fun D F0 H0 F σ H k q => ?_) fun z => by cases z
    obtain ⟨a, b, e, e', ⟨h1, h2, h3⟩, h', n⟩ := k.own
    refine ⟨.ref a, e, .inl ⟨rfl, _, .inl (.inl h3)⟩, a, _, rfl, rfl, h3, q F σ _ (Same.refl F) ⟨k.gr.mut h1 h2, k.env, k.len, b, e', ?_⟩⟩
    cases k2 with
    | true => exact h'
    | false =>
      obtain ⟨c1, c2, c3⟩ := h'
      exact ⟨c1, c2, by rw [upd_ne (n rfl rfl).symm]; exact c3⟩
theorem sd_hrev : Sd (tIfS (tB (tCB (rIsi K) (tCons (tVar i) (tCons (tC (.ty "list")) tNil)))) (tDrop (tBM0 K "list" rReverse (tVar i))) tNext) (hd1 i k1 us) en noO en := by
  cases k1 with
  | true =>
    refine sd_if (c := false) (et_B (Ev.b (ev_isi (d := .tup (us.map .int)) (n := "tuple") evb_hd1 rfl (by decide +kernel)))) (fun z => by cases z) fun _ => fun D F0 H0 F σ H k q => ?_
    exact q F σ H (Same.refl F) ⟨k.gr, k.env, k.len, True.intro⟩
  | false =>
    refine sd_if (c := true) (et_B (Ev.b (ev_isi (d := .lst (us.map .int)) (n := "list") evb_hd1 rfl (by decide +kernel)))) (fun _ => fun D F0 H0 F σ H k q => ?_) fun z => by cases z
    obtain ⟨a, e, ⟨h1, h2, h3⟩⟩ := k.own
    exact ⟨.ref a, e, .inl ⟨rfl, _, .inl (.inl h3)⟩, a, _, rfl, rfl, h3, q F σ _ (Same.refl F) ⟨k.gr.mut h1 h2, k.env, k.len, True.intro⟩⟩
end

/-! ### what is dealt is good -/
theorem turned_nodup {ps : List (Int × Int)} {order : List Int} : (turnedOf ps order).Nodup := by
  unfold turnedOf
  have h : ((enumL ps).map fun x => (x.1 : Int)).Nodup := by
    have e : ((enumL ps).map fun x => (x.1 : Int)) = (List.range ps.length).map fun i : Nat => (i : Int) := by
      refine List.ext_getElem? fun i => ?_
      rw [List.getElem?_map, List.getElem?_map]
      cases q : (enumL ps)[i]? with
      | none =>
        have hl := List.getElem?_eq_none_iff.mp q
        rw [enumL_length] at hl
        rw [List.getElem?_eq_none (by rw [List.length_range]; exact hl)]
        rfl
      | some x =>
        obtain ⟨e1, e2⟩ := enumL_take ps i x q
        rw [List.getElem?_range (List.getElem?_eq_some_iff.mp e2).1, ← e1]
        rfl
    rw [e]
    exact List.Pairwise.map _ (R := fun a b : Nat => a ≠ b) (fun a b q e => q (by omega)) List.nodup_range
  exact h.sublist (List.Sublist.map _ List.filter_sublist)
theorem turned_len {ps : List (Int × Int)} {order : List Int} : (turnedOf ps order).length ≤ ps.length := by
  unfold turnedOf
  rw [List.length_map]
  exact Nat.le_trans (List.length_filter_le _ _) (by rw [enumL_length]; exact Nat.le_refl _)
theorem turned_in {ps : List (Int × Int)} {order : List Int} : ∀ x ∈ turnedOf ps order, 0 ≤ x ∧ x < (ps.length : Int) := fun x hx => by
  unfold turnedOf at hx
  obtain ⟨y, hy, rfl⟩ := List.mem_map.mp hx
  obtain ⟨i, hi⟩ := List.getElem?_of_mem (List.mem_filter.mp hy).1
  obtain ⟨e1, e2⟩ := enumL_take ps i y hi
  have := (List.getElem?_eq_some_iff.mp e2).1
  omega
theorem tuOk_of {m : Nat} {tl tu : List Int} (p : tl.Perm tu) (h1 : tu.Nodup) (h2 : tu.length ≤ 24) (h3 : ∀ x ∈ tu, 0 ≤ x ∧ x < (m : Int)) : TuOk m tl :=
  ⟨p.nodup_iff.mpr h1, by rw [p.length_eq]; exact h2, fun x hx => h3 x (p.mem_iff.mp hx)⟩
theorem going_perm {ps : List (Int × Int)} {tl tu : List Int} (p : tl.Perm tu) : goingOf ps tl = goingOf ps tu := by
  unfold goingOf
  refine List.map_congr_left fun x _ => ?_
  unfold goWay
  by_cases h : (x.1 : Int) ∈ tu
  · rw [if_pos h, if_pos (p.mem_iff.mpr h)]
  · rw [if_neg h, if_neg (fun z => h (p.mem_iff.mp z))]
theorem srt_of {tl tu : List Int} (p : tl.Perm tu) : srt tl = srt tu := srt_eq ((srt_perm tl).trans p) (srt_sorted tl)
theorem sh_perm {N S : Addr} {names : List Str} {ps : List (Int × Int)} {tl tu rows : List Int} (p : tl.Perm tu) : shG N S names ps tl rows = shG N S names ps tu rows := by
  unfold shG shOf
  rw [srt_of p, going_perm p]
section
variable {names : List Str} {ps : List (Int × Int)} (hn : NamesOk names) (ha : ArsOk names.length ps) (ns : List Int) (a : Int)
abbrev dT (names : List Str) (ps : List (Int × Int)) (ns : List Int) (a : Int) : List Int := dlTurned ps (names.length : Int) ns a
abbrev dR (names : List Str) (ps : List (Int × Int)) (ns : List Int) (a : Int) : List Int := dlRows ps (names.length : Int) ns a
include hn ha
theorem dl_order : IsOrder names.length (dlOrder (names.length : Int) ns a) := by
  have h := orderOf_ok (cell := cellAt ns a) (many := (names.length : Int)) (by omega)
  rwa [Int.toNat_natCast] at h
theorem dl_fwd : Fwd (dlOrder (names.length : Int) ns a) (goingOf ps (dT names ps ns a)) := going_fwd (dl_order hn ha ns a) ha.2.2
theorem dl_good : Good names ps (dT names ps ns a) (dR names ps ns a) := by
  have ho := dl_order hn ha ns a
  have hf := dl_fwd hn ha ns a
  have h12 := hn.2.1
  have hl : (dT names ps ns a).length ≤ ps.length := turned_len
  have h24 := ha.1
  refine ⟨hn, h24, by omega, ?_⟩
  obtain ⟨h1, h2, h3⟩ := rowsOf_ok ho hf h12 (cellAt ns (a + 1)) (decide (0 < picked (cellAt ns (a + 2)) 3))
  obtain ⟨g1, _⟩ := heights_ok ho hf
  refine ⟨h1, fun x x0 x1 => ?_, fun p hp => ?_, going_ends ha.2.2⟩
  · have hm := (ho.mem x).mpr ⟨x0, x1⟩
    have q1 := h2 x hm
    have q2 := (g1 x hm).1
    exact ⟨q1.1, Int.le_trans (Int.le_add_of_nonneg_right q2) q1.2⟩
  · exact h3 p hp (hf p hp).2.1
/-- a sheet is made of it -/
theorem dl_sheet {tl : List Int} (p : tl.Perm (dT names ps ns a)) (k k2 : Bool) : R_Sheet N [netD N names ps, Dl.S k .int tl, Dl.S k2 .int (dR names ps ns a)] (shF (netD N names ps) (srt (dT names ps ns a)) (nrOf ps (dT names ps ns a) (dR names ps ns a)) (baOf ps (dT names ps ns a) (dR names ps ns a)) (wyOf ps (dT names ps ns a) (dR names ps ns a))) := by
  have hg := dl_good hn ha ns a
  refine ⟨names, ps, k, k2, tl, dlOrder (names.length : Int) ns a, dR names ps ns a, rfl, hg.pl, hg.n12, tuOk_of p turned_nodup hg.tl turned_in, ?_, ?_, ?_⟩
  · rw [going_perm p]
    exact dl_fwd hn ha ns a
  · rw [going_perm p]
    exact hg.dn
  · rw [going_perm p, srt_of p]
end

/-! ### the law -/
theorem net_ok (ns : List Int) (a : Int) : NamesOk (netNames ns a) ∧ ArsOk (netNames ns a).length (netArrows ns a) := by
  obtain ⟨b1, b2⟩ := boxesOf_in ns a
  obtain ⟨p1, p2⟩ := picked_in (cell := cellAt ns (a + 3)) (most := 25) (by decide)
  obtain ⟨n1, n2, n3⟩ := namesOf_ok (cell := cellAt ns (a + 1)) (many := boxesOf ns a) (by omega) b2
  obtain ⟨a1, a2, a3⟩ := arrowsOf_ok (cell := cellAt ns (a + 2)) (bx := boxesOf ns a) (many := picked (cellAt ns (a + 3)) 25) b1 p1
  have n1' : ((netNames ns a).length : Int) = boxesOf ns a := n1
  refine ⟨⟨fun z => ?_, by omega, n2, n3⟩, ?_, a2, fun p hp => ?_⟩
  · rw [z] at n1'
    have n1' : (0 : Int) = boxesOf ns a := n1'
    omega
  · show (arrowsOf _ _ _).length ≤ 24
    omega
  · rw [n1']
    exact a1 p hp
def R_law (K : PySem.W.Frag) (ds : List Dt) (d : Dt) : Prop := ∃ ns : List Int, ds = [.scr K ns] ∧ d = .bl true
theorem ok_law {f : Addr} {fd : FuncData} (F : Fun K "law" "law" s_law f fd) (T : Gb K mg N S) (c__law_net : Cal P w K mg base "_law_net" ["_law_script", "_law_at"] 4 (spD (R_net K))) (c__law_picked : Cal P w K mg base "_law_picked" ["_law_cell", "_law_most"] 2 (spD R_picked))
    (c__law_cell_at : Cal P w K mg base "_law_cell_at" ["_law_script", "_law_k"] 1 (spD (R_cell_at K))) (cNet : CalC P w K mg base N "Net" ["self", "names", "arrows"] 4 (spInit N R_Net))
    (c__law_dealt : Cal P w K mg base "_law_dealt" ["_law_arrows_here", "_law_many", "_law_script", "_law_at"] 4 (spD (R_dealt K))) (c__law_handed : Cal P w K mg base "_law_handed" ["_law_row", "_law_kind"] 1 (spR R_handed))
    (cSheet : CalC P w K mg base S "Sheet" ["self", "net", "turned", "rows"] 6 (spInitS S (R_Sheet N))) (c__law_right : Cal P w K mg base "_law_right" ["_law_sheet", "_law_names_here", "_law_arrows_here", "_law_dealt_here"] 5 (spD (R_right N S))) :
    FnOk P w K mg base CX0 8 f fd ["_law_script"] (spD (R_law K)) := by
  refine fn_dat F sc_law (by rintro _ _ ⟨_, rfl, _⟩; rfl) fun cdv A outer s H E hr ds d h => ?_
  obtain ⟨ns, rfl, rfl⟩ := h
  obtain ⟨hn, ha⟩ := net_ok ns 1
  obtain ⟨kd0, kd1⟩ := picked_in (cell := cellAt ns 0) (most := 16) (by decide)
  refine ⟨_, (pss_cons (ps_asg (pe_callC c__law_net (hr.mono (by decide)) (by rfl) (pa_cons (pv 0) (pa_cons pe_int pa_nil))) (pg_tupK (K := K) (n := 2) rfl rfl (pgs_cons (pg_name (i := 1) sc_law.nd rfl (.inl rfl)) (pgs_cons (pg_name (i := 2) sc_law.nd rfl (.inl rfl)) pgs_nil))))
      (pss_cons (ps_set (i := 3) sc_law.nd rfl (.inl rfl) (pe_callC c__law_picked (hr.mono (by decide)) (by rfl) (pa_cons (pe_callC c__law_cell_at (hr.mono (by decide)) (by rfl) (pa_cons (pv 0) (pa_cons pe_int pa_nil))) (pa_cons pe_int pa_nil))))
      (pss_cons (ps_set (i := 4) sc_law.nd rfl (.inl rfl) (pe_makeC cNet (hr.mono (by decide)) (by rfl) (pa_cons (pe_callTy (listK (K := K) rfl) (by rfl) T.list b_list (pa_cons (pv 1) pa_nil)) (pa_cons (pe_callTy (listK (K := K) rfl) (by rfl) T.list b_list (pa_cons (pv 2) pa_nil)) pa_nil))))
      (pss_cons (ps_set (i := 5) sc_law.nd rfl (.inl rfl) (pe_callC c__law_dealt (hr.mono (by decide)) (by rfl) (pa_cons (pv 2) (pa_cons (pe_callB (lenK (K := K) rfl) (by rfl) T.len b_len (pa_cons (pv 1) pa_nil)) (pa_cons (pv 0) (pa_cons pe_int pa_nil))))))
      (pss_cons (ps_set (i := 6) sc_law.nd rfl (.inl rfl) (pe_callC c__law_dealt (hr.mono (by decide)) (by rfl) (pa_cons (pv 2) (pa_cons (pe_callB (lenK (K := K) rfl) (by rfl) T.len b_len (pa_cons (pv 1) pa_nil)) (pa_cons (pv 0) (pa_cons pe_int pa_nil))))))
      (pss_cons (ps_set (i := 7) sc_law.nd rfl (.inl rfl) (pe_callC c__law_handed (hr.mono (by decide)) (by rfl) (pa_cons (pe_revL (pe_ix (ixK (K := K) rfl) (pv 5) pe_int (fun _ _ => rfl))) (pa_cons (pv 3) pa_nil))))
      (pss_cons (ps_set (i := 8) sc_law.nd rfl (.inl rfl) (pe_callC c__law_handed (hr.mono (by decide)) (by rfl) (pa_cons (pe_ix (ixK (K := K) rfl) (pv 5) pe_int (fun _ _ => rfl)) (pa_cons (pe_op op_divI (pv 3) pe_int) pa_nil))))
      (pss_cons (ps_set (i := 9) sc_law.nd rfl (.inl rfl) (pe_makeC cSheet (hr.mono (by decide)) (by rfl) (pa_cons (pv 4) (pa_cons (pv 7) (pa_cons (pv 8) pa_nil)))))
      (pss_cons (ps_set (i := 10) sc_law.nd rfl (.inl rfl) (pe_makeC cSheet (hr.mono (by decide)) (by rfl) (pa_cons (pv 4) (pa_cons (pe_callC c__law_handed (hr.mono (by decide)) (by rfl) (pa_cons (pe_ix (ixK (K := K) rfl) (pv 6) pe_int (fun _ _ => rfl)) (pa_cons (pe_op op_divI (pv 3) pe_int) pa_nil))) (pa_cons (pe_callC c__law_handed (hr.mono (by decide)) (by rfl) (pa_cons (pe_ix (ixK (K := K) rfl) (pv 6) pe_int (fun _ _ => rfl)) (pa_cons (pe_op op_divI (pv 3) pe_int) pa_nil))) pa_nil)))))
      (pss_cons (ps_if (PW.pt (pw_or (pt_cmpR (neK (K := K) rfl hr.units) (pe_callTy (listK (K := K) rfl) (by rfl) T.list b_list (pa_cons (pv 7) pa_nil)) (pe_revL (pe_ix (ixK (K := K) rfl) (pv 5) pe_int (fun _ _ => rfl))) (nomark _)) (pw_or1 (pt_cmpR (neK (K := K) rfl hr.units) (pe_callTy (listK (K := K) rfl) (by rfl) T.list b_list (pa_cons (pv 8) pa_nil)) (pe_ix (ixK (K := K) rfl) (pv 5) pe_int (fun _ _ => rfl)) (nomark _)))))
        (pss_one (ps_ret pe_bl))
        pss_nil)
      (pss_cons (ps_if (pt_val (pe_callB (isiK (K := K) rfl) (by rfl) T.isinstance b_isinstance (pa_cons (pv 7) (pa_cons (pe_bltn (v := .ty "list") (by rfl) T.list b_list rfl) pa_nil))))
        (pss_one (ps_expr (pe_bm0 PySem.F.plainAttrs_list PySem.F.slot_list_clear PySem.F.type_list_clear mt_clear (pv 7))))
        pss_nil)
      (pss_cons (ps_if (pt_val (pe_callB (isiK (K := K) rfl) (by rfl) T.isinstance b_isinstance (pa_cons (pv 8) (pa_cons (pe_bltn (v := .ty "list") (by rfl) T.list b_list rfl) pa_nil))))
        (pss_one (ps_expr (pe_bm0 PySem.F.plainAttrs_list PySem.F.slot_list_reverse PySem.F.type_list_reverse mt_reverse (pv 8))))
        pss_nil)
      (pss_cons (ps_if (PW.pt (pw_or (pt_not (pt_val (pe_callC c__law_right (hr.mono (by decide)) (by rfl) (pa_cons (pv 9) (pa_cons (pv 1) (pa_cons (pv 2) (pa_cons (pv 5) pa_nil))))))) (pw_or1 (pt_not (pt_val (pe_callC c__law_right (hr.mono (by decide)) (by rfl) (pa_cons (pv 10) (pa_cons (pv 1) (pa_cons (pv 2) (pa_cons (pv 6) pa_nil))))))))))
        (pss_one (ps_ret pe_bl))
        pss_nil)
      (pss_one (ps_ret (pe_callC c__law_right (hr.mono (by decide)) (by rfl) (pa_cons (pv 9) (pa_cons (pv 1) (pa_cons (pv 2) (pa_cons (pv 5) pa_nil)))))))))))))))))))), ?_⟩
  try dsimp only [L2.cxOf, L2.Cx.nox, L2.Cx.wish]
  generalize hN : netNames ns 1 = names at hn ha
  generalize hA : netArrows ns 1 = ps at ha
  have h24 := ha.1
  have h12 := hn.2.1
  have hg1 := dl_good hn ha ns 5
  have hg2 := dl_good hn ha ns 8
  refine blk_seq (sd_asg (d := .tup [LS names, LP ps]) (Ev.to (ev_call (R := R_net K) (by walk_at "ev") ⟨ns, 1, rfl, by decide, rfl⟩) (by rw [hN, hA]; rfl)) (tg_pair (tg_name (nin rfl)) (tg_name (nin rfl)))) ?_
  refine blk_set (d := .int (picked (cellAt ns 0) 16)) (ev_call (R := R_picked) (ea_cons (ev_call (R := R_cell_at K) (by walk_at "ev") ⟨ns, 0, rfl, by decide, rfl⟩) (ea_cons ev_int ea_nil)) ⟨_, _, rfl, by decide, rfl⟩) ?_
  refine blk_set (d := netD N names ps) (ev_make (R := R_Net) (ea_cons (Ev.to (EvN.e (ev_list (Ev.to (ev_var (d := LS names) rfl) rfl))) (rfl : _ = LS names)) (ea_cons (Ev.to (EvN.e (ev_list (Ev.to (ev_var (d := LP ps) rfl) rfl))) (rfl : _ = LP ps)) ea_nil)) ⟨names, ps, rfl, hn, ha, rfl⟩) ?_
  refine blk_set (d := T2 LI LI (dT names ps ns 5, dR names ps ns 5)) (ev_call (R := R_dealt K) (ea_cons (ev_var rfl) (ea_cons (ev_len (f := Dt.str) (us := names) (Ev.b (ev_var rfl))) (ea_cons (ev_var rfl) (ea_cons ev_int ea_nil)))) ⟨ps, (names.length : Int), ns, 5, rfl, by omega, by omega, ha.2.2, h24, by decide, rfl⟩) ?_
  refine blk_set (d := T2 LI LI (dT names ps ns 8, dR names ps ns 8)) (ev_call (R := R_dealt K) (ea_cons (ev_var rfl) (ea_cons (ev_len (f := Dt.str) (us := names) (Ev.b (ev_var rfl))) (ea_cons (ev_var rfl) (ea_cons ev_int ea_nil)))) ⟨ps, (names.length : Int), ns, 8, rfl, by omega, by omega, ha.2.2, h24, by decide, rfl⟩) ?_
  refine blk_seq (sd_hand1 (us := (dT names ps ns 5).reverse) (kind := picked (cellAt ns 0) 16) (ea_cons (EvN.e (ev_rev (f := Dt.int) (us := dT names ps ns 5) (ev_fst (f := LI) (g' := LI) (p := (dT names ps ns 5, dR names ps ns 5)) (ev_var rfl)))) (ea_cons (ev_var rfl) ea_nil)) (by show 7 < 11; decide)) ?_
  refine blk_seq (sd_hand2 (vs := dR names ps ns 5) (kind := picked (cellAt ns 0) 16 / 2) (ea_cons (ev_snd (f := LI) (g' := LI) (p := (dT names ps ns 5, dR names ps ns 5)) (ev_var rfl)) (ea_cons (by walk_at "ev") ea_nil)) (by show 8 < 11; decide) (by decide)) ?_
  generalize decide (picked (cellAt ns 0) 16 % 2 = 1) = k1
  generalize decide (picked (cellAt ns 0) 16 / 2 % 2 = 1) = k2
  refine blk_set (d := shG N S names ps (dT names ps ns 5) (dR names ps ns 5)) (ev_makeS (R := R_Sheet N) (ev_var rfl) evb_hd2a evb_hd2b (dl_sheet hn ha ns 5 (List.reverse_perm _) k1 k2)) ?_
  refine blk_set (d := shG N S names ps (dT names ps ns 8) (dR names ps ns 8)) (ev_makeS (R := R_Sheet N) (ev_var rfl) (Ev.b (ev_hand (us := dT names ps ns 8) (kind := picked (cellAt ns 0) 16 / 4) (ea_cons (ev_fst (f := LI) (g' := LI) (p := (dT names ps ns 8, dR names ps ns 8)) (ev_var rfl)) (ea_cons (by walk_at "ev") ea_nil))))
    (Ev.b (ev_hand (us := dR names ps ns 8) (kind := picked (cellAt ns 0) 16 / 8) (ea_cons (ev_snd (f := LI) (g' := LI) (p := (dT names ps ns 8, dR names ps ns 8)) (ev_var rfl)) (ea_cons (by walk_at "ev") ea_nil)))) (dl_sheet hn ha ns 8 (List.Perm.refl _) _ _)) ?_
  refine blk_ifr (c := false) (EvT.to (et_or (a := false) (b := false) (EvT.to (et_test (Ev.b (ev_ne (u := (dT names ps ns 5).reverse) (v := (dT names ps ns 5).reverse) (enc_L enc_int) (Ev.b (EvN.e (evn_listBS (f := Dt.int) (us := (dT names ps ns 5).reverse) (k := k1) evb_hd2a (fun _ => rfl)))) (Ev.b (EvN.e (ev_rev (f := Dt.int) (us := dT names ps ns 5) (ev_fst (f := LI) (g' := LI) (p := (dT names ps ns 5, dR names ps ns 5)) (ev_var rfl))))) lay_ints lay_ints))) (by rw [decide_eq_true rfl]; rfl)) fun _ =>
    EvT.to (et_test (Ev.b (ev_ne (u := dR names ps ns 5) (v := dR names ps ns 5) (enc_L enc_int) (Ev.b (EvN.e (evn_listBS (f := Dt.int) (us := dR names ps ns 5) (k := k2) evb_hd2b (fun _ => rfl)))) (Ev.b (ev_snd (f := LI) (g' := LI) (p := (dT names ps ns 5, dR names ps ns 5)) (ev_var rfl))) lay_ints lay_ints))) (by rw [decide_eq_true rfl]; rfl)) rfl) (fun hc => by cases hc) fun _ => ?_
  refine blk_seq sd_hclear ?_
  refine blk_seq sd_hrev ?_
  refine blk_ifr (c := false) (EvT.to (et_or (a := false) (b := false) (EvT.to (et_not (et_B (b := true) (Ev.b (ev_call (R := R_right N S) (by walk_at "ev") ⟨names, ps, dT names ps ns 5, dR names ps ns 5, rfl, hg1, rfl⟩)))) rfl) fun _ =>
    EvT.to (et_not (et_B (b := true) (Ev.b (ev_call (R := R_right N S) (by walk_at "ev") ⟨names, ps, dT names ps ns 8, dR names ps ns 8, rfl, hg2, rfl⟩)))) rfl) rfl) (fun hc => by cases hc) fun _ => ?_
  exact blk_ret (ev_call (R := R_right N S) (by walk_at "ev") ⟨names, ps, dT names ps ns 5, dR names ps ns 5, rfl, hg1, rfl⟩)

end
end Dl

namespace Dl
open PySem L2
local macro_rules | `(tactic| walk_at "le") => `(tactic| repeat (first | exact LeE.nil | refine LeE.keep ?_ | refine LeE.drop ?_))
local macro_rules | `(tactic| walk_at "e") => `(tactic| first
  | (with_reducible apply Ev.b); walk_at "e"
  | (with_reducible apply ev_var); exact rfl
  | with_reducible apply ev_int
  | with_reducible apply ev_str
  | with_reducible apply ev_bl
  | with_reducible apply ev_non
  | with_reducible apply evb_own
  | ((with_reducible apply ev_add) <;> walk_at "e")
  | ((with_reducible apply ev_sub) <;> walk_at "e")
  | ((with_reducible apply ev_mod) <;> first | walk_at "e" | skip)
  | ((with_reducible apply ev_div) <;> first | walk_at "e" | skip)
  | ((with_reducible apply ev_mul) <;> first | walk_at "e" | skip)
  | ((with_reducible apply ev_pow) <;> first | walk_at "e" | skip)
  | ((with_reducible apply ev_lt) <;> walk_at "e")
  | ((with_reducible apply ev_le) <;> walk_at "e")
  | ((with_reducible apply ev_gt) <;> walk_at "e")
  | ((with_reducible apply ev_ge) <;> walk_at "e")
  | ((with_reducible apply ev_len) <;> walk_at "e")
  | ((with_reducible apply ev_lenR) <;> walk_at "e")
  | with_reducible apply ea_nil
  | with_reducible apply eb_nil
  | ((with_reducible apply ea_cons) <;> walk_at "e")
  | ((with_reducible apply eb_cons) <;> walk_at "e")
  | ((with_reducible apply et_test) <;> walk_at "e")
  | ((with_reducible apply et_B) <;> walk_at "e"))
local macro_rules | `(tactic| walk_at "ev") => `(tactic| (walk_at "e" <;> first | done | decide | omega | assumption | exact cmul_l (by decide) (by decide) | exact cmul_r (by decide) (by decide) | exact cpow_mk (by decide) (by decide) (by decide) | exact cdiv_mk (by decide) (by decide)))
section
variable {P : Program} {w : World} {K : PySem.W.Frag} {mg : Str → Option Value} {base : Heap} {N S : Addr}
/-! ### what the top has written -/
open PySem.W (nsIn findIn isFn keepIn codeIn fnOf) in
abbrev GFn (K : PySem.W.Frag) (x : Str) (st : Stmt) : Prop := ∃ (f : Addr) (oc : Value) (od : Option Addr) (kV dc pm : Value) (an : Option Addr) (cd ct : Value) (sl : Array (Option Value)), nsIn K mainGlobals x = some (some (.ref f)) ∧ K.lookup f = some ⟨oc, od, .func (fnOf x x (defArgs st) (defBody st) (defScope st) .none kV dc pm an cd ct), sl⟩ ∧ codeIn K cd x = true ∧ keepIn K (.ref f) = true
open PySem.W (nsIn findIn isFn keepIn codeIn fnOf) in
abbrev MFn (K : PySem.W.Frag) (C : Addr) (m qual : Str) (st : Stmt) : Prop := ∃ (f : Addr) (oc : Value) (od : Option Addr) (kV dc pm : Value) (an : Option Addr) (cd ct : Value) (sl : Array (Option Value)), findIn K (.ref C) m = some (some (.ref f)) ∧ isFn K (.ref f) = true ∧ K.lookup f = some ⟨oc, od, .func (fnOf m qual (defArgs st) (defBody st) (defScope st) .none kV dc pm an cd ct), sl⟩ ∧ codeIn K cd qual = true ∧ keepIn K (.ref f) = true
open PySem.W (nsIn findIn isFn keepIn codeIn fnOf) in
theorem gfn_mk {K : PySem.W.Frag} {x : Str} {st : Stmt} {f : Addr} {oc : Value} {od : Option Addr} {kV dc pm : Value} {an : Option Addr} {cd ct : Value} {sl : Array (Option Value)} (a : nsIn K mainGlobals x = some (some (.ref f))) (l : K.lookup f = some ⟨oc, od, .func (fnOf x x (defArgs st) (defBody st) (defScope st) .none kV dc pm an cd ct), sl⟩) (c : codeIn K cd x = true) (k : keepIn K (.ref f) = true) : GFn K x st :=
  ⟨f, oc, od, kV, dc, pm, an, cd, ct, sl, a, l, c, k⟩
open PySem.W (nsIn findIn isFn keepIn codeIn fnOf) in
theorem mfn_mk {K : PySem.W.Frag} {C : Addr} {m qual : Str} {st : Stmt} {f : Addr} {oc : Value} {od : Option Addr} {kV dc pm : Value} {an : Option Addr} {cd ct : Value} {sl : Array (Option Value)} (a : findIn K (.ref C) m = some (some (.ref f))) (i : isFn K (.ref f) = true) (l : K.lookup f = some ⟨oc, od, .func (fnOf m qual (defArgs st) (defBody st) (defScope st) .none kV dc pm an cd ct), sl⟩) (c : codeIn K cd qual = true) (k : keepIn K (.ref f) = true) : MFn K C m qual st :=
  ⟨f, oc, od, kV, dc, pm, an, cd, ct, sl, a, i, l, c, k⟩
theorem cint_mk {K : PySem.W.Frag} {x : Str} {n : Int} {t : Tok} (h : PySem.W.nsIn K mainGlobals x = some (some (.int n t))) : ∃ t, PySem.W.nsIn K mainGlobals x = some (some (.int n t)) := ⟨t, h⟩
theorem cstr_mk {K : PySem.W.Frag} {x n : Str} {t : Tok} (h : PySem.W.nsIn K mainGlobals x = some (some (.str n t))) : ∃ t, PySem.W.nsIn K mainGlobals x = some (some (.str n t)) := ⟨t, h⟩
section
variable {h : Heap} {x m qual : Str} {st : Stmt} {ps : List Str} {lv : Nat} {sp : Sp} {C : Addr}
theorem cal_of (X : K.In h) (G : h.Ns mainGlobals mg) (g : GFn K x st) (hb : ∀ {f fd}, Fun K x x st f fd → Binds K fd ps []) (ok : ∀ {f fd}, Fun K x x st f fd → FnOk P w K mg base CX0 lv f fd ps sp) : Cal P w K mg base x ps lv sp := by
  obtain ⟨f, oc, od, kV, dc, pm, an, cd, ct, sl, a, l, c, k⟩ := g
  exact ⟨f, _, ok (fun_mk l c k), PySem.W.mg_of X G a, k, hb (fun_mk l c k)⟩
theorem calM_of (g : MFn K C m qual st) (hb : ∀ {f fd}, Fun K m qual st f fd → Binds K fd ps []) (ok : ∀ {f fd}, Fun K m qual st f fd → FnOk P w K mg base CX0 lv f fd ps sp) : CalM P w K mg base C m ps lv sp := by
  obtain ⟨f, oc, od, kV, dc, pm, an, cd, ct, sl, a, i, l, c, k⟩ := g
  exact ⟨f, _, ok (fun_mk l c k), ⟨a, i, k⟩, hb (fun_mk l c k)⟩
theorem calC_of (X : K.In h) (G : h.Ns mainGlobals mg) (a0 : PySem.W.nsIn K mainGlobals x = some (some (.ref C))) (mk : PySem.W.makesIn K C = true) (kc : PySem.W.keepIn K (.ref C) = true) (g : MFn K C "__init__" qual st) (hb : ∀ {f fd}, Fun K "__init__" qual st f fd → Binds K fd ps []) (ok : ∀ {f fd}, Fun K "__init__" qual st f fd → FnOk P w K mg base CX0 lv f fd ps sp) : CalC P w K mg base C x ps lv sp := by
  obtain ⟨f, oc, od, kV, dc, pm, an, cd, ct, sl, a, i, l, c, k⟩ := g
  exact ⟨f, _, ok (fun_mk l c k), ⟨mk, a, i, kc⟩, PySem.W.mg_of X G a0, hb (fun_mk l c k)⟩
end
theorem all_mk {h : Heap} {fa : Addr} (X : K.In h) (G : h.Ns mainGlobals mg) (hfa : mg "law" = some (.ref fa))
    (aN : PySem.W.nsIn K mainGlobals "Net" = some (some (.ref N))) (aS : PySem.W.nsIn K mainGlobals "Sheet" = some (some (.ref S))) (pgN : PySem.W.plainGet K N Str.empty = true) (hdN : PySem.W.hasDictIn K N = true)
    (poN : PySem.W.plainOver K N = true) (saN : PySem.W.findIn K (.ref N) "__setattr__" = some (some (.builtin "object.__setattr__"))) (mkN : PySem.W.makesIn K N = true) (kcN : PySem.W.keepIn K (.ref N) = true)
    (pgS : PySem.W.plainGet K S Str.empty = true) (hdS : PySem.W.hasDictIn K S = true) (poS : PySem.W.plainOver K S = true) (saS : PySem.W.findIn K (.ref S) "__setattr__" = some (some (.builtin "object.__setattr__")))
    (mkS : PySem.W.makesIn K S = true) (kcS : PySem.W.keepIn K (.ref S) = true) (at_nNames : PySem.W.findIn K (.ref N) "box_names" = some none) (at_nArrows : PySem.W.findIn K (.ref N) "own_arrows" = some none)
    (at_sNet : PySem.W.findIn K (.ref S) "drawn_net" = some none) (at_sTurned : PySem.W.findIn K (.ref S) "turned_arrows" = some none) (at_sRows : PySem.W.findIn K (.ref S) "node_rows" = some none) (at_sArrows : PySem.W.findIn K (.ref S) "node_arrows" = some none)
    (at_sWays : PySem.W.findIn K (.ref S) "ways" = some none) (z_len : PySem.W.nsIn K mainGlobals "len" = some none) (z_list : PySem.W.nsIn K mainGlobals "list" = some none) (z_tuple : PySem.W.nsIn K mainGlobals "tuple" = some none)
    (z_int : PySem.W.nsIn K mainGlobals "int" = some none) (z_bool : PySem.W.nsIn K mainGlobals "bool" = some none) (z_str : PySem.W.nsIn K mainGlobals "str" = some none) (z_isinstance : PySem.W.nsIn K mainGlobals "isinstance" = some none)
    (z_max : PySem.W.nsIn K mainGlobals "max" = some none) (z_min : PySem.W.nsIn K mainGlobals "min" = some none) (z_sorted : PySem.W.nsIn K mainGlobals "sorted" = some none) (z_all : PySem.W.nsIn K mainGlobals "all" = some none)
    (z_range : PySem.W.nsIn K mainGlobals "range" = some none) (z_enumerate : PySem.W.nsIn K mainGlobals "enumerate" = some none) (z_zip : PySem.W.nsIn K mainGlobals "zip" = some none) (z_reversed : PySem.W.nsIn K mainGlobals "reversed" = some none)
    (k_cBoxes : ∃ t, PySem.W.nsIn K mainGlobals "MOST_BOXES" = some (some (.int 12 t))) (k_cArrows : ∃ t, PySem.W.nsIn K mainGlobals "MOST_ARROWS" = some (some (.int 24 t))) (k_cLetters : ∃ t, PySem.W.nsIn K mainGlobals "MOST_LETTERS" = some (some (.int 8 t))) (k_cAbc : ∃ t, PySem.W.nsIn K mainGlobals "LETTERS" = some (some (.str "abcdefghijklmnopqrstuvwxyz" t)))
    (k_cLast : ∃ t, PySem.W.nsIn K mainGlobals "LAST_ROW" = some (some (.int 11 t))) (g_law_cell_at : GFn K "_law_cell_at" s_law_cell_at) (g_law_mixed : GFn K "_law_mixed" s_law_mixed) (g_law_digits : GFn K "_law_digits" s_law_digits)
    (g_law_picked : GFn K "_law_picked" s_law_picked) (g_law_name : GFn K "_law_name" s_law_name) (g_law_names : GFn K "_law_names" s_law_names) (g_law_arrows : GFn K "_law_arrows" s_law_arrows)
    (g_law_net : GFn K "_law_net" s_law_net) (g_law_order : GFn K "_law_order" s_law_order) (g_law_turned : GFn K "_law_turned" s_law_turned) (g_law_going : GFn K "_law_going" s_law_going)
    (g_law_heights : GFn K "_law_heights" s_law_heights) (g_law_rows : GFn K "_law_rows" s_law_rows) (g_law_dealt : GFn K "_law_dealt" s_law_dealt) (g_law_ways : GFn K "_law_ways" s_law_ways)
    (g_law_node_rows : GFn K "_law_node_rows" s_law_node_rows) (g_law_in_rows : GFn K "_law_in_rows" s_law_in_rows) (g_law_pieces : GFn K "_law_pieces" s_law_pieces) (g_law_handed : GFn K "_law_handed" s_law_handed)
    (g_law_bend_arrows : GFn K "_law_bend_arrows" s_law_bend_arrows) (g_law_is_list : GFn K "_law_is_list" s_law_is_list) (g_is_word : GFn K "is_word" s_is_word) (g_is_number : GFn K "is_number" s_is_number)
    (g_is_arrow : GFn K "is_arrow" s_is_arrow) (g_name_fault : GFn K "name_fault" s_name_fault) (g_arrow_fault : GFn K "arrow_fault" s_arrow_fault) (g_Net_init : MFn K N "__init__" "Net.__init__" s_Net_init)
    (g_Net_names : MFn K N "names" "Net.names" s_Net_names) (g_Net_arrows : MFn K N "arrows" "Net.arrows" s_Net_arrows) (g_Net_many : MFn K N "many" "Net.many" s_Net_many) (g_want_turned : GFn K "want_turned" s_want_turned)
    (g_as_they_go : GFn K "as_they_go" s_as_they_go) (g_going_on : GFn K "going_on" s_going_on) (g_ring_among : GFn K "ring_among" s_ring_among) (g_ring_left : GFn K "ring_left" s_ring_left)
    (g_steps_of : GFn K "steps_of" s_steps_of) (g_are_rows : GFn K "are_rows" s_are_rows) (g_is_down : GFn K "is_down" s_is_down) (g_ends_of : GFn K "ends_of" s_ends_of)
    (g_Sheet_bent : MFn K S "bent" "Sheet.bent" s_Sheet_bent) (g_Sheet_init : MFn K S "__init__" "Sheet.__init__" s_Sheet_init) (g_Sheet_net : MFn K S "net" "Sheet.net" s_Sheet_net) (g_Sheet_turned : MFn K S "turned" "Sheet.turned" s_Sheet_turned)
    (g_Sheet_rows : MFn K S "rows" "Sheet.rows" s_Sheet_rows) (g_Sheet_many_rows : MFn K S "many_rows" "Sheet.many_rows" s_Sheet_many_rows) (g_Sheet_many_nodes : MFn K S "many_nodes" "Sheet.many_nodes" s_Sheet_many_nodes) (g_Sheet_want_node : MFn K S "want_node" "Sheet.want_node" s_Sheet_want_node)
    (g_Sheet_row_of : MFn K S "row_of" "Sheet.row_of" s_Sheet_row_of) (g_Sheet_arrow_of : MFn K S "arrow_of" "Sheet.arrow_of" s_Sheet_arrow_of) (g_Sheet_nodes_in : MFn K S "nodes_in" "Sheet.nodes_in" s_Sheet_nodes_in) (g_Sheet_pieces : MFn K S "pieces" "Sheet.pieces" s_Sheet_pieces)
    (g_Sheet_way : MFn K S "way" "Sheet.way" s_Sheet_way) (g_first_order : GFn K "first_order" s_first_order) (g_law_numbers_right : GFn K "_law_numbers_right" s_law_numbers_right) (g_law_lists_right : GFn K "_law_lists_right" s_law_lists_right)
    (g_law_right : GFn K "_law_right" s_law_right) (g_law : GFn K "law" s_law)
    : ∃ fd : FuncData, (∀ (s : Shared) (v : Value), BindsTo s fd ⟨[v], []⟩ [("_law_script", v)]) ∧ ∀ base : Heap, FnOk P w K mg base CX0 8 fa fd ["_law_script"] (spD (R_law K)) := by
  have T : Gb K mg N S := ⟨PySem.W.mg_none_of X G z_len, PySem.W.mg_none_of X G z_list, PySem.W.mg_none_of X G z_tuple, PySem.W.mg_none_of X G z_int, PySem.W.mg_none_of X G z_bool, PySem.W.mg_none_of X G z_str, PySem.W.mg_none_of X G z_isinstance, PySem.W.mg_none_of X G z_max, PySem.W.mg_none_of X G z_min, PySem.W.mg_none_of X G z_sorted, PySem.W.mg_none_of X G z_all, PySem.W.mg_none_of X G z_range, PySem.W.mg_none_of X G z_enumerate, PySem.W.mg_none_of X G z_zip, PySem.W.mg_none_of X G z_reversed,
    k_cBoxes.imp fun _ h => PySem.W.mg_of X G h, k_cArrows.imp fun _ h => PySem.W.mg_of X G h, k_cLetters.imp fun _ h => PySem.W.mg_of X G h, k_cAbc.imp fun _ h => PySem.W.mg_of X G h, k_cLast.imp fun _ h => PySem.W.mg_of X G h,
    ⟨pgN, hdN, poN, saN⟩, ⟨pgS, hdS, poS, saS⟩, at_nNames, at_nArrows, at_sNet, at_sTurned, at_sRows, at_sArrows, at_sWays⟩
  obtain ⟨f, oc, od, kV, dc, pm, an, cd, ct, sl, a, l, c, k⟩ := g_law
  have e := hfa.symm.trans (PySem.W.mg_of X G a)
  cases e
  refine ⟨PySem.W.fnOf "law" "law" (defArgs s_law) (defBody s_law) (defScope s_law) .none kV dc pm an cd ct, fun s v => .of_eq rfl, fun base => ?_⟩
  have c__law_cell_at : Cal P w K mg base "_law_cell_at" ["_law_script", "_law_k"] 1 (spD (R_cell_at K)) := cal_of X G g_law_cell_at (fun F => F.binds fun _ _ _ _ _ _ us hl => match us, hl with | [_, _], _ => rfl) (fun F => ok_law_cell_at F T)
  have c__law_mixed : Cal P w K mg base "_law_mixed" ["_law_cell", "_law_k"] 1 (spD R_mixed) := cal_of X G g_law_mixed (fun F => F.binds fun _ _ _ _ _ _ us hl => match us, hl with | [_, _], _ => rfl) (fun F => ok_law_mixed F T)
  have c__law_digits : Cal P w K mg base "_law_digits" ["_law_cell", "_law_base", "_law_many"] 2 (spN R_digits) := cal_of X G g_law_digits (fun F => F.binds fun _ _ _ _ _ _ us hl => match us, hl with | [_, _, _], _ => rfl) (fun F => ok_law_digits F T c__law_mixed)
  have c__law_picked : Cal P w K mg base "_law_picked" ["_law_cell", "_law_most"] 2 (spD R_picked) := cal_of X G g_law_picked (fun F => F.binds fun _ _ _ _ _ _ us hl => match us, hl with | [_, _], _ => rfl) (fun F => ok_law_picked F T c__law_mixed)
  have c__law_name : Cal P w K mg base "_law_name" ["_law_number"] 1 (spD R_name) := cal_of X G g_law_name (fun F => F.binds fun _ _ _ _ _ _ us hl => match us, hl with | [_], _ => rfl) (fun F => ok_law_name F T)
  have c__law_names : Cal P w K mg base "_law_names" ["_law_cell", "_law_many"] 3 (spN R_names) := cal_of X G g_law_names (fun F => F.binds fun _ _ _ _ _ _ us hl => match us, hl with | [_, _], _ => rfl) (fun F => ok_law_names F T c__law_digits c__law_name)
  have c__law_arrows : Cal P w K mg base "_law_arrows" ["_law_cell", "_law_boxes", "_law_many"] 3 (spN R_arrows) := cal_of X G g_law_arrows (fun F => F.binds fun _ _ _ _ _ _ us hl => match us, hl with | [_, _, _], _ => rfl) (fun F => ok_law_arrows F T c__law_digits)
  have c__law_net : Cal P w K mg base "_law_net" ["_law_script", "_law_at"] 4 (spD (R_net K)) := cal_of X G g_law_net (fun F => F.binds fun _ _ _ _ _ _ us hl => match us, hl with | [_, _], _ => rfl) (fun F => ok_law_net F T c__law_cell_at c__law_picked c__law_names c__law_arrows)
  have c__law_order : Cal P w K mg base "_law_order" ["_law_cell", "_law_many"] 3 (spD R_order) := cal_of X G g_law_order (fun F => F.binds fun _ _ _ _ _ _ us hl => match us, hl with | [_, _], _ => rfl) (fun F => ok_law_order F T c__law_digits)
  have c__law_turned : Cal P w K mg base "_law_turned" ["_law_arrows_here", "_law_order_here"] 1 (spN R_turned) := cal_of X G g_law_turned (fun F => F.binds fun _ _ _ _ _ _ us hl => match us, hl with | [_, _], _ => rfl) (fun F => ok_law_turned F T)
  have c__law_going : Cal P w K mg base "_law_going" ["_law_arrows_here", "_law_turned_here"] 1 (spN R_going) := cal_of X G g_law_going (fun F => F.binds fun _ _ _ _ _ _ us hl => match us, hl with | [_, _], _ => rfl) (fun F => ok_law_going F T)
  have c__law_heights : Cal P w K mg base "_law_heights" ["_law_going_here", "_law_order_here"] 1 (spN R_heights) := cal_of X G g_law_heights (fun F => F.binds fun _ _ _ _ _ _ us hl => match us, hl with | [_, _], _ => rfl) (fun F => ok_law_heights F T)
  have c__law_rows : Cal P w K mg base "_law_rows" ["_law_going_here", "_law_order_here", "_law_cell", "_law_close"] 3 (spD R_rows) := cal_of X G g_law_rows (fun F => F.binds fun _ _ _ _ _ _ us hl => match us, hl with | [_, _, _, _], _ => rfl) (fun F => ok_law_rows F T c__law_digits c__law_heights)
  have c__law_dealt : Cal P w K mg base "_law_dealt" ["_law_arrows_here", "_law_many", "_law_script", "_law_at"] 4 (spD (R_dealt K)) := cal_of X G g_law_dealt (fun F => F.binds fun _ _ _ _ _ _ us hl => match us, hl with | [_, _, _, _], _ => rfl) (fun F => ok_law_dealt F T c__law_cell_at c__law_picked c__law_order c__law_turned c__law_going c__law_rows)
  have c__law_ways : Cal P w K mg base "_law_ways" ["_law_arrows_here", "_law_turned_here", "_law_rows_here"] 2 (spN R_ways) := cal_of X G g_law_ways (fun F => F.binds fun _ _ _ _ _ _ us hl => match us, hl with | [_, _, _], _ => rfl) (fun F => ok_law_ways F T c__law_going)
  have c__law_node_rows : Cal P w K mg base "_law_node_rows" ["_law_rows_here", "_law_ways_here"] 1 (spN R_node_rows) := cal_of X G g_law_node_rows (fun F => F.binds fun _ _ _ _ _ _ us hl => match us, hl with | [_, _], _ => rfl) (fun F => ok_law_node_rows F T)
  have c__law_in_rows : Cal P w K mg base "_law_in_rows" ["_law_node_rows_here", "_law_rows_here"] 1 (spD R_in_rows) := cal_of X G g_law_in_rows (fun F => F.binds fun _ _ _ _ _ _ us hl => match us, hl with | [_, _], _ => rfl) (fun F => ok_law_in_rows F T)
  have c__law_pieces : Cal P w K mg base "_law_pieces" ["_law_ways_here"] 1 (spN R_pieces) := cal_of X G g_law_pieces (fun F => F.binds fun _ _ _ _ _ _ us hl => match us, hl with | [_], _ => rfl) (fun F => ok_law_pieces F T)
  have c__law_handed : Cal P w K mg base "_law_handed" ["_law_row", "_law_kind"] 1 (spR R_handed) := cal_of X G g_law_handed (fun F => F.binds fun _ _ _ _ _ _ us hl => match us, hl with | [_, _], _ => rfl) (fun F => ok_law_handed F T)
  have c__law_bend_arrows : Cal P w K mg base "_law_bend_arrows" ["_law_rows_here", "_law_ways_here"] 1 (spN R_bends) := cal_of X G g_law_bend_arrows (fun F => F.binds fun _ _ _ _ _ _ us hl => match us, hl with | [_, _], _ => rfl) (fun F => ok_law_bend_arrows F T)
  have c__law_is_list : Cal P w K mg base "_law_is_list" ["_law_told", "_law_due"] 1 (spSpoil R_is_list) := cal_of X G g_law_is_list (fun F => F.binds fun _ _ _ _ _ _ us hl => match us, hl with | [_, _], _ => rfl) (fun F => ok_law_is_list F T)
  have c_is_word : Cal P w K mg base "is_word" ["thing"] 1 (spD R_is_word) := cal_of X G g_is_word (fun F => F.binds fun _ _ _ _ _ _ us hl => match us, hl with | [_], _ => rfl) (fun F => ok_is_word F T)
  have c_is_number : Cal P w K mg base "is_number" ["thing"] 1 (spD R_is_number) := cal_of X G g_is_number (fun F => F.binds fun _ _ _ _ _ _ us hl => match us, hl with | [_], _ => rfl) (fun F => ok_is_number F T)
  have c_is_arrow : Cal P w K mg base "is_arrow" ["thing", "many"] 2 (spD R_is_arrow) := cal_of X G g_is_arrow (fun F => F.binds fun _ _ _ _ _ _ us hl => match us, hl with | [_, _], _ => rfl) (fun F => ok_is_arrow F T c_is_number)
  have c_name_fault : Cal P w K mg base "name_fault" ["names"] 2 (spD R_name_fault) := cal_of X G g_name_fault (fun F => F.binds fun _ _ _ _ _ _ us hl => match us, hl with | [_], _ => rfl) (fun F => ok_name_fault F T c_is_word)
  have c_arrow_fault : Cal P w K mg base "arrow_fault" ["arrows", "many"] 3 (spD R_arrow_fault) := cal_of X G g_arrow_fault (fun F => F.binds fun _ _ _ _ _ _ us hl => match us, hl with | [_, _], _ => rfl) (fun F => ok_arrow_fault F T c_is_arrow)
  have cNet : CalC P w K mg base N "Net" ["self", "names", "arrows"] 4 (spInit N R_Net) := calC_of X G aN mkN kcN g_Net_init (fun F => F.binds fun _ _ _ _ _ _ us hl => match us, hl with | [_, _, _], _ => rfl) (fun F => ok_Net_init F T c_name_fault c_arrow_fault)
  have m_names : CalM P w K mg base N "names" ["self"] 1 (spN (R_Net_names N)) := calM_of g_Net_names (fun F => F.binds fun _ _ _ _ _ _ us hl => match us, hl with | [_], _ => rfl) (fun F => ok_Net_names F T)
  have m_arrows : CalM P w K mg base N "arrows" ["self"] 1 (spN (R_Net_arrows N)) := calM_of g_Net_arrows (fun F => F.binds fun _ _ _ _ _ _ us hl => match us, hl with | [_], _ => rfl) (fun F => ok_Net_arrows F T)
  have m_many : CalM P w K mg base N "many" ["self"] 1 (spD (R_Net_many N)) := calM_of g_Net_many (fun F => F.binds fun _ _ _ _ _ _ us hl => match us, hl with | [_], _ => rfl) (fun F => ok_Net_many F T)
  have c_want_turned : Cal P w K mg base "want_turned" ["net", "turned"] 2 (spD (R_want_turned N)) := cal_of X G g_want_turned (fun F => F.binds fun _ _ _ _ _ _ us hl => match us, hl with | [_, _], _ => rfl) (fun F => ok_want_turned F T m_arrows)
  have c_as_they_go : Cal P w K mg base "as_they_go" ["net", "turned"] 2 (spN (R_as_they_go N)) := cal_of X G g_as_they_go (fun F => F.binds fun _ _ _ _ _ _ us hl => match us, hl with | [_, _], _ => rfl) (fun F => ok_as_they_go F T m_arrows)
  have c_going_on : Cal P w K mg base "going_on" ["ways", "numbers"] 1 (spD R_going_on) := cal_of X G g_going_on (fun F => F.binds fun _ _ _ _ _ _ us hl => match us, hl with | [_, _], _ => rfl) (fun F => ok_going_on F T)
  have c_ring_among : Cal P w K mg base "ring_among" ["ways", "numbers"] 2 (spD R_ring_among) := cal_of X G g_ring_among (fun F => F.binds fun _ _ _ _ _ _ us hl => match us, hl with | [_, _], _ => rfl) (fun F => ok_ring_among F T c_going_on)
  have c_ring_left : Cal P w K mg base "ring_left" ["net", "turned"] 3 (spD (R_ring_left N)) := cal_of X G g_ring_left (fun F => F.binds fun _ _ _ _ _ _ us hl => match us, hl with | [_, _], _ => rfl) (fun F => ok_ring_left F T c_want_turned c_as_they_go c_ring_among)
  have c_steps_of : Cal P w K mg base "steps_of" ["net", "turned"] 4 (spN (R_steps_of N)) := cal_of X G g_steps_of (fun F => F.binds fun _ _ _ _ _ _ us hl => match us, hl with | [_, _], _ => rfl) (fun F => ok_steps_of F T m_arrows c_ring_left)
  have c_are_rows : Cal P w K mg base "are_rows" ["net", "rows"] 2 (spD (R_are_rows N)) := cal_of X G g_are_rows (fun F => F.binds fun _ _ _ _ _ _ us hl => match us, hl with | [_, _], _ => rfl) (fun F => ok_are_rows F T m_many)
  have c_is_down : Cal P w K mg base "is_down" ["net", "turned", "rows"] 5 (spD (R_is_down N)) := cal_of X G g_is_down (fun F => F.binds fun _ _ _ _ _ _ us hl => match us, hl with | [_, _, _], _ => rfl) (fun F => ok_is_down F T c_steps_of c_are_rows)
  have c_ends_of : Cal P w K mg base "ends_of" ["arrow", "is_turned"] 1 (spD R_ends_of) := cal_of X G g_ends_of (fun F => F.binds fun _ _ _ _ _ _ us hl => match us, hl with | [_, _], _ => rfl) (fun F => ok_ends_of F T)
  have m_bent : CalM P w K mg base S "bent" ["self", "number", "upper", "lower"] 1 (spBent S R_bent) := calM_of g_Sheet_bent (fun F => F.binds fun _ _ _ _ _ _ us hl => match us, hl with | [_, _, _, _], _ => rfl) (fun F => ok_Sheet_bent F T)
  have cSheet : CalC P w K mg base S "Sheet" ["self", "net", "turned", "rows"] 6 (spInitS S (R_Sheet N)) := calC_of X G aS mkS kcS g_Sheet_init (fun F => F.binds fun _ _ _ _ _ _ us hl => match us, hl with | [_, _, _, _], _ => rfl) (fun F => ok_Sheet_init F T c_ring_left c_is_down m_many m_arrows c_ends_of m_bent)
  have m_net : CalM P w K mg base S "net" ["self"] 1 (spD (R_sh_net S)) := calM_of g_Sheet_net (fun F => F.binds fun _ _ _ _ _ _ us hl => match us, hl with | [_], _ => rfl) (fun F => ok_Sheet_net F T)
  have m_turned : CalM P w K mg base S "turned" ["self"] 1 (spN (R_sh_turned S)) := calM_of g_Sheet_turned (fun F => F.binds fun _ _ _ _ _ _ us hl => match us, hl with | [_], _ => rfl) (fun F => ok_Sheet_turned F T)
  have m_rows : CalM P w K mg base S "rows" ["self"] 2 (spN (R_sh_rows N S)) := calM_of g_Sheet_rows (fun F => F.binds fun _ _ _ _ _ _ us hl => match us, hl with | [_], _ => rfl) (fun F => ok_Sheet_rows F T m_many)
  have m_many_rows : CalM P w K mg base S "many_rows" ["self"] 1 (spD (R_sh_many_rows S)) := calM_of g_Sheet_many_rows (fun F => F.binds fun _ _ _ _ _ _ us hl => match us, hl with | [_], _ => rfl) (fun F => ok_Sheet_many_rows F T)
  have m_many_nodes : CalM P w K mg base S "many_nodes" ["self"] 1 (spD (R_sh_many_nodes S)) := calM_of g_Sheet_many_nodes (fun F => F.binds fun _ _ _ _ _ _ us hl => match us, hl with | [_], _ => rfl) (fun F => ok_Sheet_many_nodes F T)
  have m_want_node : CalM P w K mg base S "want_node" ["self", "node"] 1 (spD (R_sh_want_node S)) := calM_of g_Sheet_want_node (fun F => F.binds fun _ _ _ _ _ _ us hl => match us, hl with | [_, _], _ => rfl) (fun F => ok_Sheet_want_node F T)
  have m_row_of : CalM P w K mg base S "row_of" ["self", "node"] 2 (spD (R_sh_row_of S)) := calM_of g_Sheet_row_of (fun F => F.binds fun _ _ _ _ _ _ us hl => match us, hl with | [_, _], _ => rfl) (fun F => ok_Sheet_row_of F T m_want_node)
  have m_arrow_of : CalM P w K mg base S "arrow_of" ["self", "node"] 2 (spD (R_sh_arrow_of S)) := calM_of g_Sheet_arrow_of (fun F => F.binds fun _ _ _ _ _ _ us hl => match us, hl with | [_, _], _ => rfl) (fun F => ok_Sheet_arrow_of F T m_want_node)
  have m_nodes_in : CalM P w K mg base S "nodes_in" ["self", "row"] 2 (spN (R_sh_nodes_in S)) := calM_of g_Sheet_nodes_in (fun F => F.binds fun _ _ _ _ _ _ us hl => match us, hl with | [_, _], _ => rfl) (fun F => ok_Sheet_nodes_in F T m_many_rows)
  have m_pieces : CalM P w K mg base S "pieces" ["self"] 1 (spN (R_sh_pieces S)) := calM_of g_Sheet_pieces (fun F => F.binds fun _ _ _ _ _ _ us hl => match us, hl with | [_], _ => rfl) (fun F => ok_Sheet_pieces F T)
  have m_way : CalM P w K mg base S "way" ["self", "arrow"] 1 (spN (R_sh_way S)) := calM_of g_Sheet_way (fun F => F.binds fun _ _ _ _ _ _ us hl => match us, hl with | [_, _], _ => rfl) (fun F => ok_Sheet_way F T)
  have c_first_order : Cal P w K mg base "first_order" ["sheet"] 3 (spL (R_first_order S)) := cal_of X G g_first_order (fun F => F.binds fun _ _ _ _ _ _ us hl => match us, hl with | [_], _ => rfl) (fun F => ok_first_order F T m_many_rows m_nodes_in)
  have c__law_numbers_right : Cal P w K mg base "_law_numbers_right" ["_law_sheet", "_law_names_here", "_law_arrows_here", "_law_turned_here", "_law_rows_here"] 3 (spD (R_numbers N S)) := cal_of X G g_law_numbers_right (fun F => F.binds fun _ _ _ _ _ _ us hl => match us, hl with | [_, _, _, _, _], _ => rfl) (fun F => ok_law_numbers_right F T c__law_ways c__law_node_rows c__law_bend_arrows m_names m_arrows m_net m_many_rows m_many_nodes m_row_of m_arrow_of)
  have c__law_lists_right : Cal P w K mg base "_law_lists_right" ["_law_sheet", "_law_arrows_here", "_law_turned_here", "_law_rows_here"] 4 (spD (R_lists N S)) := cal_of X G g_law_lists_right (fun F => F.binds fun _ _ _ _ _ _ us hl => match us, hl with | [_, _, _, _], _ => rfl) (fun F => ok_law_lists_right F T c__law_ways c__law_node_rows c__law_in_rows c_first_order c__law_is_list c__law_pieces m_nodes_in m_way m_pieces m_rows m_turned)
  have c__law_right : Cal P w K mg base "_law_right" ["_law_sheet", "_law_names_here", "_law_arrows_here", "_law_dealt_here"] 5 (spD (R_right N S)) := cal_of X G g_law_right (fun F => F.binds fun _ _ _ _ _ _ us hl => match us, hl with | [_, _, _, _], _ => rfl) (fun F => ok_law_right F T c__law_numbers_right c__law_lists_right)
  exact ok_law (fun_mk l c k) T c__law_net c__law_picked c__law_cell_at cNet c__law_dealt c__law_handed cSheet c__law_right
theorem walk {l : PySem.W.OpenLaw} {q : Program} {loose : List Str} {XP : (Str → Option Value) → Heap → Prop} {YP : World → Heap → Prop} {d : DefRec} {K : Params → PySem.W.Frag} (hn : l.most = some 63) (hdf : d.params.defaults = [])
    (hY : ∀ (w : World) (h : Heap), YP w h → (K w.params).In h)
    (F : ∀ (w : World) (mg : Str → Option Value) (fa : Addr) (h : Heap), (K w.params).In h → h.Ns mainGlobals mg → mg d.name = some (.ref fa) →
      ∃ fd : FuncData, (∀ (s : Shared) (u : Value), BindsTo s fd ⟨[u], []⟩ [("_law_script", u)]) ∧ ∀ base : Heap, FnOk l.prog w (K w.params) mg base CX0 8 fa fd ["_law_script"] (spD (R_law (K w.params)))) :
    PySem.W.WalkO q loose XP YP l.row.toRowW d [] (fun f vs => PySem.call f vs) :=
  L2.walk_of (n := 63) (k := 8) (x := "_law_script") (CX := fun _ => CX0) (sp := fun w => spD (R_law (K w.params))) hn (by decide) hdf ⟨rfl, by decide, by decide⟩ hY (fun w mg fa h hK hG hm => let ⟨fd, h1, h2⟩ := F w mg fa h hK hG hm; ⟨fd, h1, fun base _ _ => h2 base⟩)
    (fun w H a ns hl _ hS => ⟨H, [.scr (K w.params) ns], .bl true, Same.refl H, .cons (.scr hS) .nil, ⟨ns, rfl, rfl⟩, fun v F' H' g r => (by cases r; rfl)⟩) fun _ _ _ _ _ z => z

end
end Dl
open PySem PySem.W PyProof.Rows in
set_option maxRecDepth 100000 in
set_option maxHeartbeats 0 in
theorem PySem.Challenge.cw_arrowtiers_k41_whole_sheets_told_holds : PySem.Challenge.rw_arrowtiers_k41_whole_sheets_told.Holds := by
  w_on; o_law; k_head; (case hw => w_witness2)
  k_fill
  refine Dl.walk (l := PySem.Challenge.rw_arrowtiers_k41_whole_sheets_told) rfl rfl (fun w h Y => PySem.W.kIn_of Y) ?F
  case F =>
    intro w mg fa h KX G hmg
    refine' Dl.all_mk KX G hmg ?aN ?aS ?pgN ?hdN ?poN ?saN ?mkN ?kcN ?pgS ?hdS ?poS ?saS ?mkS ?kcS ?at_nNames ?at_nArrows ?at_sNet ?at_sTurned ?at_sRows ?at_sArrows ?at_sWays ?z_len ?z_list ?z_tuple ?z_int ?z_bool ?z_str ?z_isinstance ?z_max ?z_min ?z_sorted ?z_all ?z_range ?z_enumerate ?z_zip ?z_reversed ?k_cBoxes ?k_cArrows ?k_cLetters ?k_cAbc ?k_cLast ?g_law_cell_at ?g_law_mixed ?g_law_digits ?g_law_picked ?g_law_name ?g_law_names ?g_law_arrows ?g_law_net ?g_law_order ?g_law_turned ?g_law_going ?g_law_heights ?g_law_rows ?g_law_dealt ?g_law_ways ?g_law_node_rows ?g_law_in_rows ?g_law_pieces ?g_law_handed ?g_law_bend_arrows ?g_law_is_list ?g_is_word ?g_is_number ?g_is_arrow ?g_name_fault ?g_arrow_fault ?g_Net_init ?g_Net_names ?g_Net_arrows ?g_Net_many ?g_want_turned ?g_as_they_go ?g_going_on ?g_ring_among ?g_ring_left ?g_steps_of ?g_are_rows ?g_is_down ?g_ends_of ?g_Sheet_bent ?g_Sheet_init ?g_Sheet_net ?g_Sheet_turned ?g_Sheet_rows ?g_Sheet_many_rows ?g_Sheet_many_nodes ?g_Sheet_want_node ?g_Sheet_row_of ?g_Sheet_arrow_of ?g_Sheet_nodes_in ?g_Sheet_pieces ?g_Sheet_way ?g_first_order ?g_law_numbers_right ?g_law_lists_right ?g_law_right ?g_law
    (case aN => k_is)
    (case aS => k_is)
    (case pgN => k_is)
    (case hdN => k_is)
    (case poN => k_is)
    (case saN => k_is)
    (case mkN => k_is)
    (case kcN => k_is)
    (case pgS => k_is)
    (case hdS => k_is)
    (case poS => k_is)
    (case saS => k_is)
    (case mkS => k_is)
    (case kcS => k_is)
    (case at_nNames => k_is)
    (case at_nArrows => k_is)
    (case at_sNet => k_is)
    (case at_sTurned => k_is)
    (case at_sRows => k_is)
    (case at_sArrows => k_is)
    (case at_sWays => k_is)
    (case z_len => k_is)
    (case z_list => k_is)
    (case z_tuple => k_is)
    (case z_int => k_is)
    (case z_bool => k_is)
    (case z_str => k_is)
    (case z_isinstance => k_is)
    (case z_max => k_is)
    (case z_min => k_is)
    (case z_sorted => k_is)
    (case z_all => k_is)
    (case z_range => k_is)
    (case z_enumerate => k_is)
    (case z_zip => k_is)
    (case z_reversed => k_is)
    (case k_cBoxes => refine' Dl.cint_mk ?t; (case t => k_is))
    (case k_cArrows => refine' Dl.cint_mk ?t; (case t => k_is))
    (case k_cLetters => refine' Dl.cint_mk ?t; (case t => k_is))
    (case k_cAbc => refine' Dl.cstr_mk ?t; (case t => k_is))
    (case k_cLast => refine' Dl.cint_mk ?t; (case t => k_is))
    (case g_law_cell_at => refine' Dl.gfn_mk ?a ?l ?c ?k; (case a => k_is); (case l => k_is); (case c => k_is); (case k => k_is))
    (case g_law_mixed => refine' Dl.gfn_mk ?a ?l ?c ?k; (case a => k_is); (case l => k_is); (case c => k_is); (case k => k_is))
    (case g_law_digits => refine' Dl.gfn_mk ?a ?l ?c ?k; (case a => k_is); (case l => k_is); (case c => k_is); (case k => k_is))
    (case g_law_picked => refine' Dl.gfn_mk ?a ?l ?c ?k; (case a => k_is); (case l => k_is); (case c => k_is); (case k => k_is))
    (case g_law_name => refine' Dl.gfn_mk ?a ?l ?c ?k; (case a => k_is); (case l => k_is); (case c => k_is); (case k => k_is))
    (case g_law_names => refine' Dl.gfn_mk ?a ?l ?c ?k; (case a => k_is); (case l => k_is); (case c => k_is); (case k => k_is))
    (case g_law_arrows => refine' Dl.gfn_mk ?a ?l ?c ?k; (case a => k_is); (case l => k_is); (case c => k_is); (case k => k_is))
    (case g_law_net => refine' Dl.gfn_mk ?a ?l ?c ?k; (case a => k_is); (case l => k_is); (case c => k_is); (case k => k_is))
    (case g_law_order => refine' Dl.gfn_mk ?a ?l ?c ?k; (case a => k_is); (case l => k_is); (case c => k_is); (case k => k_is))
    (case g_law_turned => refine' Dl.gfn_mk ?a ?l ?c ?k; (case a => k_is); (case l => k_is); (case c => k_is); (case k => k_is))
    (case g_law_going => refine' Dl.gfn_mk ?a ?l ?c ?k; (case a => k_is); (case l => k_is); (case c => k_is); (case k => k_is))
    (case g_law_heights => refine' Dl.gfn_mk ?a ?l ?c ?k; (case a => k_is); (case l => k_is); (case c => k_is); (case k => k_is))
    (case g_law_rows => refine' Dl.gfn_mk ?a ?l ?c ?k; (case a => k_is); (case l => k_is); (case c => k_is); (case k => k_is))
    (case g_law_dealt => refine' Dl.gfn_mk ?a ?l ?c ?k; (case a => k_is); (case l => k_is); (case c => k_is); (case k => k_is))
    (case g_law_ways => refine' Dl.gfn_mk ?a ?l ?c ?k; (case a => k_is); (case l => k_is); (case c => k_is); (case k => k_is))
    (case g_law_node_rows => refine' Dl.gfn_mk ?a ?l ?c ?k; (case a => k_is); (case l => k_is); (case c => k_is); (case k => k_is))
    (case g_law_in_rows => refine' Dl.gfn_mk ?a ?l ?c ?k; (case a => k_is); (case l => k_is); (case c => k_is); (case k => k_is))
    (case g_law_pieces => refine' Dl.gfn_mk ?a ?l ?c ?k; (case a => k_is); (case l => k_is); (case c => k_is); (case k => k_is))
    (case g_law_handed => refine' Dl.gfn_mk ?a ?l ?c ?k; (case a => k_is); (case l => k_is); (case c => k_is); (case k => k_is))
    (case g_law_bend_arrows => refine' Dl.gfn_mk ?a ?l ?c ?k; (case a => k_is); (case l => k_is); (case c => k_is); (case k => k_is))
    (case g_law_is_list => refine' Dl.gfn_mk ?a ?l ?c ?k; (case a => k_is); (case l => k_is); (case c => k_is); (case k => k_is))
    (case g_is_word => refine' Dl.gfn_mk ?a ?l ?c ?k; (case a => k_is); (case l => k_is); (case c => k_is); (case k => k_is))
    (case g_is_number => refine' Dl.gfn_mk ?a ?l ?c ?k; (case a => k_is); (case l => k_is); (case c => k_is); (case k => k_is))
    (case g_is_arrow => refine' Dl.gfn_mk ?a ?l ?c ?k; (case a => k_is); (case l => k_is); (case c => k_is); (case k => k_is))
    (case g_name_fault => refine' Dl.gfn_mk ?a ?l ?c ?k; (case a => k_is); (case l => k_is); (case c => k_is); (case k => k_is))
    (case g_arrow_fault => refine' Dl.gfn_mk ?a ?l ?c ?k; (case a => k_is); (case l => k_is); (case c => k_is); (case k => k_is))
    (case g_Net_init => refine' Dl.mfn_mk ?a ?i ?l ?c ?k; (case a => k_is); (case i => k_is); (case l => k_is); (case c => k_is); (case k => k_is))
    (case g_Net_names => refine' Dl.mfn_mk ?a ?i ?l ?c ?k; (case a => k_is); (case i => k_is); (case l => k_is); (case c => k_is); (case k => k_is))
    (case g_Net_arrows => refine' Dl.mfn_mk ?a ?i ?l ?c ?k; (case a => k_is); (case i => k_is); (case l => k_is); (case c => k_is); (case k => k_is))
    (case g_Net_many => refine' Dl.mfn_mk ?a ?i ?l ?c ?k; (case a => k_is); (case i => k_is); (case l => k_is); (case c => k_is); (case k => k_is))
    (case g_want_turned => refine' Dl.gfn_mk ?a ?l ?c ?k; (case a => k_is); (case l => k_is); (case c => k_is); (case k => k_is))
    (case g_as_they_go => refine' Dl.gfn_mk ?a ?l ?c ?k; (case a => k_is); (case l => k_is); (case c => k_is); (case k => k_is))
    (case g_going_on => refine' Dl.gfn_mk ?a ?l ?c ?k; (case a => k_is); (case l => k_is); (case c => k_is); (case k => k_is))
    (case g_ring_among => refine' Dl.gfn_mk ?a ?l ?c ?k; (case a => k_is); (case l => k_is); (case c => k_is); (case k => k_is))
    (case g_ring_left => refine' Dl.gfn_mk ?a ?l ?c ?k; (case a => k_is); (case l => k_is); (case c => k_is); (case k => k_is))
    (case g_steps_of => refine' Dl.gfn_mk ?a ?l ?c ?k; (case a => k_is); (case l => k_is); (case c => k_is); (case k => k_is))
    (case g_are_rows => refine' Dl.gfn_mk ?a ?l ?c ?k; (case a => k_is); (case l => k_is); (case c => k_is); (case k => k_is))
    (case g_is_down => refine' Dl.gfn_mk ?a ?l ?c ?k; (case a => k_is); (case l => k_is); (case c => k_is); (case k => k_is))
    (case g_ends_of => refine' Dl.gfn_mk ?a ?l ?c ?k; (case a => k_is); (case l => k_is); (case c => k_is); (case k => k_is))
    (case g_Sheet_bent => refine' Dl.mfn_mk ?a ?i ?l ?c ?k; (case a => k_is); (case i => k_is); (case l => k_is); (case c => k_is); (case k => k_is))
    (case g_Sheet_init => refine' Dl.mfn_mk ?a ?i ?l ?c ?k; (case a => k_is); (case i => k_is); (case l => k_is); (case c => k_is); (case k => k_is))
    (case g_Sheet_net => refine' Dl.mfn_mk ?a ?i ?l ?c ?k; (case a => k_is); (case i => k_is); (case l => k_is); (case c => k_is); (case k => k_is))
    (case g_Sheet_turned => refine' Dl.mfn_mk ?a ?i ?l ?c ?k; (case a => k_is); (case i => k_is); (case l => k_is); (case c => k_is); (case k => k_is))
    (case g_Sheet_rows => refine' Dl.mfn_mk ?a ?i ?l ?c ?k; (case a => k_is); (case i => k_is); (case l => k_is); (case c => k_is); (case k => k_is))
    (case g_Sheet_many_rows => refine' Dl.mfn_mk ?a ?i ?l ?c ?k; (case a => k_is); (case i => k_is); (case l => k_is); (case c => k_is); (case k => k_is))
    (case g_Sheet_many_nodes => refine' Dl.mfn_mk ?a ?i ?l ?c ?k; (case a => k_is); (case i => k_is); (case l => k_is); (case c => k_is); (case k => k_is))
    (case g_Sheet_want_node => refine' Dl.mfn_mk ?a ?i ?l ?c ?k; (case a => k_is); (case i => k_is); (case l => k_is); (case c => k_is); (case k => k_is))
    (case g_Sheet_row_of => refine' Dl.mfn_mk ?a ?i ?l ?c ?k; (case a => k_is); (case i => k_is); (case l => k_is); (case c => k_is); (case k => k_is))
    (case g_Sheet_arrow_of => refine' Dl.mfn_mk ?a ?i ?l ?c ?k; (case a => k_is); (case i => k_is); (case l => k_is); (case c => k_is); (case k => k_is))
    (case g_Sheet_nodes_in => refine' Dl.mfn_mk ?a ?i ?l ?c ?k; (case a => k_is); (case i => k_is); (case l => k_is); (case c => k_is); (case k => k_is))
    (case g_Sheet_pieces => refine' Dl.mfn_mk ?a ?i ?l ?c ?k; (case a => k_is); (case i => k_is); (case l => k_is); (case c => k_is); (case k => k_is))
    (case g_Sheet_way => refine' Dl.mfn_mk ?a ?i ?l ?c ?k; (case a => k_is); (case i => k_is); (case l => k_is); (case c => k_is); (case k => k_is))
    (case g_first_order => refine' Dl.gfn_mk ?a ?l ?c ?k; (case a => k_is); (case l => k_is); (case c => k_is); (case k => k_is))
    (case g_law_numbers_right => refine' Dl.gfn_mk ?a ?l ?c ?k; (case a => k_is); (case l => k_is); (case c => k_is); (case k => k_is))
    (case g_law_lists_right => refine' Dl.gfn_mk ?a ?l ?c ?k; (case a => k_is); (case l => k_is); (case c => k_is); (case k => k_is))
    (case g_law_right => refine' Dl.gfn_mk ?a ?l ?c ?k; (case a => k_is); (case l => k_is); (case c => k_is); (case k => k_is))
    (case g_law => refine' Dl.gfn_mk ?a ?l ?c ?k; (case a => k_is); (case l => k_is); (case c => k_is); (case k => k_is))
