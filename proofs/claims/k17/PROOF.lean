import PyProof.Rows.All
import Wide.All
import OpenK.AllK
import Wide.FinOn
import KE.KStateDown
import Lean
import HandS.ForMost
import HandS.ForExc
import HandS.IsInst
import HandS.Style
import HandS.Wide
import HandS.TupAny
import HandS.Dict
import HandS.More
import HandS.Zip
import KE.GoesEnum
import HandS.Defaults
import HandS.Base
import HandS.Call
import HandS.Ends
import HandS.Words
import HandS.WordsExc
import HandS.Head0
import HandS.Head1
import HandS.Head2
import HandS.HeadEnd
import HandS.HeadHook1
import HandS.HeadHook2
import PySem.Challenge.RW_testmill_k17_solve_small_systems
set_option Elab.async false
set_option linter.all false
set_option maxRecDepth 100000
set_option maxHeartbeats 4000000
/-! MP0: data D with marks of who may write; what a value stands for; the state's relation. -/
namespace MP
open PySem L2

/-- a Python value as plain data; o: it has one holder alone, who may write it -/
inductive D where
  | non | bl (b : Bool) | int (i : Int) | str (x : Str)
  | tup (ds : List D)
  | lst (o : Bool) (ds : List D)
  | dic (o : Bool) (ks : List Key) (ds : List D)
  /-- a list that is only read (the script, a constant of the module) -/
  | fro (ds : List D)

def D.own : D → Bool
  | .lst true _ => true
  | .dic true _ _ => true
  | _ => false
@[simp] theorem D.own_non : D.own .non = false := rfl
@[simp] theorem D.own_bl (b) : D.own (.bl b) = false := rfl
@[simp] theorem D.own_int (b) : D.own (.int b) = false := rfl
@[simp] theorem D.own_str (b) : D.own (.str b) = false := rfl
@[simp] theorem D.own_tup (b) : D.own (.tup b) = false := rfl
@[simp] theorem D.own_fro (b) : D.own (.fro b) = false := rfl
@[simp] theorem D.own_lst (o b) : D.own (.lst o b) = o := by cases o <;> rfl
@[simp] theorem D.own_dic (o k b) : D.own (.dic o k b) = o := by cases o <;> rfl

mutual
def D.fz : D → D
  | .lst true ds => .lst false (D.fzs ds)
  | .dic true ks ds => .dic false ks (D.fzs ds)
  | d => d
def D.fzs : List D → List D
  | [] => []
  | d :: ds => d.fz :: D.fzs ds
end
theorem D.fz_of : ∀ {d : D}, d.own = false → d.fz = d
  | .non, _ => rfl
  | .bl _, _ => rfl
  | .int _, _ => rfl
  | .str _, _ => rfl
  | .tup _, _ => rfl
  | .lst false _, _ => rfl
  | .lst true _, h => by cases h
  | .dic false _ _, _ => rfl
  | .dic true _ _, h => by cases h
  | .fro _, _ => rfl
theorem D.fzs_eq : ∀ ds : List D, D.fzs ds = ds.map D.fz
  | [] => rfl
  | d :: ds => by show d.fz :: D.fzs ds = d.fz :: ds.map D.fz; rw [D.fzs_eq ds]
theorem D.fzs_of : ∀ {ds : List D}, (∀ d ∈ ds, d.own = false) → D.fzs ds = ds
  | [], _ => rfl
  | d :: ds, h => by
    show d.fz :: D.fzs ds = d :: ds
    rw [D.fz_of (h d List.mem_cons_self), D.fzs_of fun x hx => h x (List.mem_cons_of_mem _ hx)]
theorem D.fzs_map {α : Type} (f : α → D) (l : List α) (h : ∀ x, (f x).own = false) : D.fzs (l.map f) = l.map f :=
  D.fzs_of fun d hd => by
    obtain ⟨x, _, rfl⟩ := List.mem_map.mp hd
    exact h x
theorem D.fzs_length (ds : List D) : (D.fzs ds).length = ds.length := by rw [D.fzs_eq, List.length_map]
@[simp] theorem D.fz_non : D.fz .non = .non := rfl
@[simp] theorem D.fz_bl (b : Bool) : D.fz (.bl b) = .bl b := rfl
@[simp] theorem D.fz_int (i : Int) : D.fz (.int i) = .int i := rfl
@[simp] theorem D.fz_str (x : Str) : D.fz (.str x) = .str x := rfl
@[simp] theorem D.fz_tup (ds : List D) : D.fz (.tup ds) = .tup ds := rfl
@[simp] theorem D.fz_lstF (ds : List D) : D.fz (.lst false ds) = .lst false ds := rfl
@[simp] theorem D.fz_lstT (ds : List D) : D.fz (.lst true ds) = .lst false (D.fzs ds) := rfl
@[simp] theorem D.fz_fro (ds : List D) : D.fz (.fro ds) = .fro ds := rfl
@[simp] theorem D.fz_dicF (ks : List Key) (ds : List D) : D.fz (.dic false ks ds) = .dic false ks ds := rfl
@[simp] theorem D.fz_dicT (ks : List Key) (ds : List D) : D.fz (.dic true ks ds) = .dic false ks (D.fzs ds) := rfl

theorem _root_.L2.Same.sqT {K : PySem.W.Frag} {H H' : Hp} {a : Addr} {xs : List V} (e : Same H H') (h : SqT K H a xs) : SqT K H' a xs := by
  rcases h with (h | ⟨o, h⟩) | h
  · exact .inl (.inl (e _ _ h))
  · exact .inl (.inr ⟨o, e _ _ h⟩)
  · exact .inr h

/-! ### what a value stands for, where nothing is written -/
mutual
inductive Rp (K : PySem.W.Frag) (F : Hp) : D → V → Prop
  | non : Rp K F .non .non
  | bl (b : Bool) : Rp K F (.bl b) (.bl b)
  | int (i : Int) : Rp K F (.int i) (.int i)
  | str (x : Str) : Rp K F (.str x) (.str x)
  | tup {a : Addr} {vs : List V} {ds : List D} : SqT K F a vs → Rps K F ds vs → Rp K F (.tup ds) (.ref a)
  | lst {a : Addr} {vs : List V} {ds : List D} : F a = some (.lst vs) → Rps K F ds vs → Rp K F (.lst false ds) (.ref a)
  | fro {a : Addr} {vs : List V} {ds : List D} : SqL K F a vs → Rps K F ds vs → Rp K F (.fro ds) (.ref a)
  | dic {a : Addr} {kvs : List (Key × V)} {ks : List Key} {ds : List D} : F a = some (.dK kvs) → kvs.map (·.1) = ks → Rps K F ds (kvs.map (·.2)) → Rp K F (.dic false ks ds) (.ref a)
inductive Rps (K : PySem.W.Frag) (F : Hp) : List D → List V → Prop
  | nil : Rps K F [] []
  | cons {d : D} {v : V} {ds : List D} {vs : List V} : Rp K F d v → Rps K F ds vs → Rps K F (d :: ds) (v :: vs)
end
section
variable {K : PySem.W.Frag} {B B' F F' H H' : Hp}
mutual
theorem Rp.mono (e : Same F F') : ∀ (d : D) (v : V), Rp K F d v → Rp K F' d v
  | .non, _, h => by cases h; exact .non
  | .bl _, _, h => by cases h; exact .bl _
  | .int _, _, h => by cases h; exact .int _
  | .str _, _, h => by cases h; exact .str _
  | .tup ds, _, h => by
    cases h with
    | tup s r => exact .tup (e.sqT s) (Rps.mono e ds _ r)
  | .lst true _, _, h => by cases h
  | .lst false ds, _, h => by
    cases h with
    | lst s r => exact .lst (e _ _ s) (Rps.mono e ds _ r)
  | .fro ds, _, h => by
    cases h with
    | fro s r => exact .fro (e.seq s) (Rps.mono e ds _ r)
  | .dic true _ _, _, h => by cases h
  | .dic false ks ds, _, h => by
    cases h with
    | dic s k r => exact .dic (e _ _ s) k (Rps.mono e ds _ r)
theorem Rps.mono (e : Same F F') : ∀ (ds : List D) (vs : List V), Rps K F ds vs → Rps K F' ds vs
  | [], _, h => by cases h; exact .nil
  | d :: ds, _, h => by
    cases h with
    | cons a b => exact .cons (Rp.mono e d _ a) (Rps.mono e ds _ b)
end
theorem Rps.length : ∀ {ds : List D} {vs : List V}, Rps K F ds vs → ds.length = vs.length
  | _, _, .nil => rfl
  | _, _, .cons _ t => by rw [List.length_cons, List.length_cons, Rps.length t]
theorem Rps.get : ∀ {ds : List D} {vs : List V} {i : Nat} {d : D}, Rps K F ds vs → ds[i]? = some d → ∃ v, vs[i]? = some v ∧ Rp K F d v
  | _, _, _, _, .nil, e => by simp at e
  | _, _, 0, _, .cons r _, e => by simp at e; subst e; exact ⟨_, rfl, r⟩
  | _, _, i + 1, d, .cons _ t, e => by
    obtain ⟨v, h1, h2⟩ := Rps.get (i := i) (d := d) t (by simpa using e)
    exact ⟨v, by simpa using h1, h2⟩
theorem Rps.append : ∀ {ds es : List D} {vs ws : List V}, Rps K F ds vs → Rps K F es ws → Rps K F (ds ++ es) (vs ++ ws)
  | _, _, _, _, .nil, s => s
  | _, _, _, _, .cons r t, s => .cons r (Rps.append t s)
theorem Rps.take : ∀ {ds : List D} {vs : List V} (n : Nat), Rps K F ds vs → Rps K F (ds.take n) (vs.take n)
  | _, _, 0, _ => .nil
  | _, _, _ + 1, .nil => .nil
  | _, _, n + 1, .cons r t => .cons r (Rps.take n t)
theorem Rps.drop : ∀ {ds : List D} {vs : List V} (n : Nat), Rps K F ds vs → Rps K F (ds.drop n) (vs.drop n)
  | _, _, 0, r => r
  | _, _, _ + 1, .nil => .nil
  | _, _, n + 1, .cons _ t => Rps.drop n t
theorem Rps.set {d : D} {v : V} (r : Rp K F d v) : ∀ {ds : List D} {vs : List V} (i : Nat), Rps K F ds vs → Rps K F (ds.set i d) (vs.set i v)
  | _, _, _, .nil => .nil
  | _, _, 0, .cons _ t => .cons r t
  | _, _, i + 1, .cons q t => .cons q (Rps.set r i t)
theorem Rps.reverse {ds : List D} {vs : List V} (h : Rps K F ds vs) : Rps K F ds.reverse vs.reverse := by
  induction ds generalizing vs with
  | nil => cases h; exact .nil
  | cons d ds ih =>
    cases h with
    | cons a b =>
      rw [List.reverse_cons, List.reverse_cons]
      exact (ih b).append (.cons a .nil)
theorem Rps.ints : ∀ {ns : List Int} {vs : List V}, Rps K F (ns.map D.int) vs → vs = ns.map V.int
  | [], _, h => by cases h; rfl
  | n :: ns, _, h => by
    cases h with
    | cons a b =>
      cases a
      rw [Rps.ints b]
      rfl
theorem Rps.ofInts : ∀ ns : List Int, Rps K F (ns.map D.int) (ns.map V.int)
  | [] => .nil
  | _ :: ns => .cons (.int _) (Rps.ofInts ns)
theorem Rp.not_own : ∀ {d : D} {v : V}, Rp K F d v → d.own = false
  | _, _, .non => rfl
  | _, _, .bl _ => rfl
  | _, _, .int _ => rfl
  | _, _, .str _ => rfl
  | _, _, .tup _ _ => rfl
  | _, _, .lst _ _ => rfl
  | _, _, .dic _ _ _ => rfl
  | _, _, .fro _ _ => rfl
end

/-! ### .. where some lists and dicts have one holder; fp: their addresses -/
mutual
inductive Ow (K : PySem.W.Frag) (B F H : Hp) : D → V → List Addr → Prop
  | imm {d : D} {v : V} : Rp K F d v → Ow K B F H d v []
  | lst {a : Addr} {vs : List V} {ds : List D} {fp : List Addr} : H a = some (.lst vs) → F a = none → B a = none → Ows K B F H ds vs fp → Ow K B F H (.lst true ds) (.ref a) (a :: fp)
  | dic {a : Addr} {kvs : List (Key × V)} {ks : List Key} {ds : List D} {fp : List Addr} : H a = some (.dK kvs) → F a = none → B a = none → kvs.map (·.1) = ks → Ows K B F H ds (kvs.map (·.2)) fp →
      Ow K B F H (.dic true ks ds) (.ref a) (a :: fp)
inductive Ows (K : PySem.W.Frag) (B F H : Hp) : List D → List V → List Addr → Prop
  | nil : Ows K B F H [] [] []
  | cons {d : D} {v : V} {ds : List D} {vs : List V} {f fs : List Addr} : Ow K B F H d v f → Ows K B F H ds vs fs → Ows K B F H (d :: ds) (v :: vs) (f ++ fs)
end
section
variable {K : PySem.W.Frag} {B B' F F' H H' : Hp}
theorem Ow.rp {d : D} {v : V} {fp : List Addr} (h : Ow K B F H d v fp) (n : d.own = false) : Rp K F d v ∧ fp = [] := by
  cases h with
  | imm r => exact ⟨r, rfl⟩
  | lst => cases n
  | dic => cases n
mutual
theorem Ow.frame (e : Same F F') : ∀ (d : D) (v : V) (fp : List Addr), Ow K B F H d v fp → (∀ a ∈ fp, H' a = H a) → (∀ a ∈ fp, F' a = none) → (∀ a ∈ fp, B' a = none) → Ow K B' F' H' d v fp
  | .non, _, _, h, _, _, _ => by cases h with | imm r => exact .imm (Rp.mono e _ _ r)
  | .bl _, _, _, h, _, _, _ => by cases h with | imm r => exact .imm (Rp.mono e _ _ r)
  | .int _, _, _, h, _, _, _ => by cases h with | imm r => exact .imm (Rp.mono e _ _ r)
  | .str _, _, _, h, _, _, _ => by cases h with | imm r => exact .imm (Rp.mono e _ _ r)
  | .tup _, _, _, h, _, _, _ => by cases h with | imm r => exact .imm (Rp.mono e _ _ r)
  | .fro _, _, _, h, _, _, _ => by cases h with | imm r => exact .imm (Rp.mono e _ _ r)
  | .lst o ds, _, _, h, h1, h2, h3 => by
    cases h with
    | imm r => exact .imm (Rp.mono e _ _ r)
    | lst a b c r => exact .lst (by rw [h1 _ List.mem_cons_self]; exact a) (h2 _ List.mem_cons_self) (h3 _ List.mem_cons_self) (Ows.frame e ds _ _ r (fun a ha => h1 a (List.mem_cons_of_mem _ ha)) (fun a ha => h2 a (List.mem_cons_of_mem _ ha)) fun a ha => h3 a (List.mem_cons_of_mem _ ha))
  | .dic o ks ds, _, _, h, h1, h2, h3 => by
    cases h with
    | imm r => exact .imm (Rp.mono e _ _ r)
    | dic a b c k r => exact .dic (by rw [h1 _ List.mem_cons_self]; exact a) (h2 _ List.mem_cons_self) (h3 _ List.mem_cons_self) k (Ows.frame e ds _ _ r (fun a ha => h1 a (List.mem_cons_of_mem _ ha)) (fun a ha => h2 a (List.mem_cons_of_mem _ ha)) fun a ha => h3 a (List.mem_cons_of_mem _ ha))
theorem Ows.frame (e : Same F F') : ∀ (ds : List D) (vs : List V) (fp : List Addr), Ows K B F H ds vs fp → (∀ a ∈ fp, H' a = H a) → (∀ a ∈ fp, F' a = none) → (∀ a ∈ fp, B' a = none) → Ows K B' F' H' ds vs fp
  | [], _, _, h, _, _, _ => by cases h; exact .nil
  | d :: ds, _, _, h, h1, h2, h3 => by
    cases h with
    | cons a b =>
      exact .cons (Ow.frame e d _ _ a (fun a ha => h1 a (List.mem_append_left _ ha)) (fun a ha => h2 a (List.mem_append_left _ ha)) fun a ha => h3 a (List.mem_append_left _ ha))
        (Ows.frame e ds _ _ b (fun a ha => h1 a (List.mem_append_right _ ha)) (fun a ha => h2 a (List.mem_append_right _ ha)) fun a ha => h3 a (List.mem_append_right _ ha))
end
mutual
/-- the addresses are held -/
theorem Ow.mem : ∀ (d : D) (v : V) (fp : List Addr), Ow K B F H d v fp → ∀ a ∈ fp, H a ≠ none ∧ F a = none ∧ B a = none
  | .non, _, _, h, a, ha => by cases h; cases ha
  | .bl _, _, _, h, a, ha => by cases h; cases ha
  | .int _, _, _, h, a, ha => by cases h; cases ha
  | .str _, _, _, h, a, ha => by cases h; cases ha
  | .tup _, _, _, h, a, ha => by cases h; cases ha
  | .fro _, _, _, h, a, ha => by cases h; cases ha
  | .lst o ds, _, _, h, a, ha => by
    cases h with
    | imm r => cases ha
    | lst x y z r =>
      rcases List.mem_cons.mp ha with rfl | ha
      · exact ⟨by rw [x]; simp, y, z⟩
      · exact Ows.mem ds _ _ r a ha
  | .dic o ks ds, _, _, h, a, ha => by
    cases h with
    | imm r => cases ha
    | dic x y z k r =>
      rcases List.mem_cons.mp ha with rfl | ha
      · exact ⟨by rw [x]; simp, y, z⟩
      · exact Ows.mem ds _ _ r a ha
theorem Ows.mem : ∀ (ds : List D) (vs : List V) (fp : List Addr), Ows K B F H ds vs fp → ∀ a ∈ fp, H a ≠ none ∧ F a = none ∧ B a = none
  | [], _, _, h, a, ha => by cases h; cases ha
  | d :: ds, _, _, h, a, ha => by
    cases h with
    | cons x y =>
      rcases List.mem_append.mp ha with ha | ha
      · exact Ow.mem d _ _ x a ha
      · exact Ows.mem ds _ _ y a ha
end
/-- F, and at fp what H has -/
def ovl (F H : Hp) (fp : List Addr) : Hp := fun a => if a ∈ fp then H a else F a
theorem ovl_in {fp : List Addr} {a : Addr} (h : a ∈ fp) : ovl F H fp a = H a := if_pos h
theorem ovl_out {fp : List Addr} {a : Addr} (h : a ∉ fp) : ovl F H fp a = F a := if_neg h
theorem ovl_same {fp : List Addr} (h : ∀ a ∈ fp, F a = none) : Same F (ovl F H fp) := fun a o e => by
  by_cases m : a ∈ fp
  · rw [h a m] at e; cases e
  · rw [ovl_out m]; exact e
theorem ovl_sub {fp : List Addr} (h : Same F H) : Same (ovl F H fp) H := fun a o e => by
  by_cases m : a ∈ fp
  · rw [ovl_in m] at e; exact e
  · rw [ovl_out m] at e; exact h a o e
mutual
/-- what is held by one is given up: from now on it stands still -/
theorem Ow.freeze {F' : Hp} (s : Same F F') : ∀ (d : D) (v : V) (fp : List Addr), Ow K B F H d v fp → (∀ a ∈ fp, F' a = H a) → Rp K F' d.fz v
  | .non, _, _, h, _ => by cases h with | imm r => exact Rp.mono s _ _ r
  | .bl _, _, _, h, _ => by cases h with | imm r => exact Rp.mono s _ _ r
  | .int _, _, _, h, _ => by cases h with | imm r => exact Rp.mono s _ _ r
  | .str _, _, _, h, _ => by cases h with | imm r => exact Rp.mono s _ _ r
  | .tup _, _, _, h, _ => by cases h with | imm r => exact Rp.mono s _ _ r
  | .fro _, _, _, h, _ => by cases h with | imm r => exact Rp.mono s _ _ r
  | .lst false ds, _, _, h, _ => by cases h with | imm r => exact Rp.mono s _ _ r
  | .dic false ks ds, _, _, h, _ => by cases h with | imm r => exact Rp.mono s _ _ r
  | .lst true ds, _, _, h, e => by
    cases h with
    | imm r => cases r
    | lst x y z r => exact .lst ((e _ List.mem_cons_self).trans x) (Ows.freeze s ds _ _ r fun a ha => e a (List.mem_cons_of_mem _ ha))
  | .dic true ks ds, _, _, h, e => by
    cases h with
    | imm r => cases r
    | dic x y z k r => exact .dic ((e _ List.mem_cons_self).trans x) k (Ows.freeze s ds _ _ r fun a ha => e a (List.mem_cons_of_mem _ ha))
theorem Ows.freeze {F' : Hp} (s : Same F F') : ∀ (ds : List D) (vs : List V) (fp : List Addr), Ows K B F H ds vs fp → (∀ a ∈ fp, F' a = H a) → Rps K F' (D.fzs ds) vs
  | [], _, _, h, _ => by cases h; exact .nil
  | d :: ds, _, _, h, e => by
    cases h with
    | cons x y => exact .cons (Ow.freeze s d _ _ x fun a ha => e a (List.mem_append_left _ ha)) (Ows.freeze s ds _ _ y fun a ha => e a (List.mem_append_right _ ha))
end
theorem Ows.length : ∀ {ds : List D} {vs : List V} {fp : List Addr}, Ows K B F H ds vs fp → ds.length = vs.length
  | _, _, _, .nil => rfl
  | _, _, _, .cons _ t => by rw [List.length_cons, List.length_cons, Ows.length t]
/-- nothing in it is held by one -/
def plain (ds : List D) : Bool := ds.all fun d => !d.own
theorem Ows.rps : ∀ {ds : List D} {vs : List V} {fp : List Addr}, Ows K B F H ds vs fp → plain ds = true → Rps K F ds vs ∧ fp = []
  | _, _, _, .nil, _ => ⟨.nil, rfl⟩
  | _, _, _, .cons a b, p => by
    unfold plain at p
    rw [List.all_cons, Bool.and_eq_true] at p
    obtain ⟨p1, p2⟩ := p
    obtain ⟨r1, rfl⟩ := a.rp (by simpa using p1)
    obtain ⟨r2, rfl⟩ := Ows.rps b p2
    exact ⟨.cons r1 r2, rfl⟩
theorem Ows.of : ∀ {ds : List D} {vs : List V}, Rps K F ds vs → Ows K B F H ds vs []
  | _, _, .nil => .nil
  | _, _, .cons a b => by
    have := Ows.cons (Ow.imm (B := B) (H := H) a) (Ows.of b)
    exact this
theorem Rps.plain : ∀ {ds : List D} {vs : List V}, Rps K F ds vs → MP.plain ds = true
  | _, _, .nil => rfl
  | _, _, .cons a b => by
    unfold MP.plain
    rw [List.all_cons, a.not_own]
    exact Rps.plain b
end

/-! ### the state -/
abbrev S := List (Option D)
/-- st: the slots' data; σ: their values; fp i: the addresses that slot i alone holds; B: what stood at the entry and is not ours; F: what stands still -/
structure SR (K : PySem.W.Frag) (B F H : Hp) (st : S) (σ : St) (fp : Nat → List Addr) : Prop where
  len : st.length = σ.length
  bh : Same B H
  fh : Same F H
  sl : ∀ i d, st[i]? = some (some d) → ∃ v, σ[i]? = some (some v) ∧ Ow K B F H d v (fp i)
  em : ∀ i, (∀ d, st[i]? ≠ some (some d)) → fp i = []
  nd : ∀ i, (fp i).Nodup
  dj : ∀ i j a, a ∈ fp i → a ∈ fp j → i = j
/-- a value beside the state -/
structure RV (K : PySem.W.Frag) (B F H : Hp) (fp : Nat → List Addr) (d : D) (v : V) (fv : List Addr) : Prop where
  ow : Ow K B F H d v fv
  nd : fv.Nodup
  ap : ∀ i, ∀ a ∈ fp i, a ∉ fv
/-- what stands still grows, outside B -/
structure Gr (B F F' : Hp) : Prop where
  ex : Same F F'
  at_ : ∀ a, B a ≠ none → F' a = F a
theorem Gr.refl {B F : Hp} : Gr B F F := ⟨.refl _, fun _ _ => rfl⟩
theorem Gr.trans {B F F1 F2 : Hp} (a : Gr B F F1) (b : Gr B F1 F2) : Gr B F F2 := ⟨a.ex.trans b.ex, fun c h => (b.at_ c h).trans (a.at_ c h)⟩
section
variable {K : PySem.W.Frag} {B B' F F' H H' : Hp} {st : S} {σ : St} {fp : Nat → List Addr}
theorem SR.hold (s : SR K B F H st σ fp) {i : Nat} {a : Addr} (h : a ∈ fp i) : H a ≠ none ∧ F a = none ∧ B a = none := by
  cases e : st[i]? with
  | none => rw [s.em i (by rw [e]; intro d z; cases z)] at h; cases h
  | some o =>
    cases o with
    | none => rw [s.em i (by rw [e]; intro d z; cases z)] at h; cases h
    | some d =>
      obtain ⟨v, _, o⟩ := s.sl i d e
      exact Ow.mem d v _ o a h
/-- new objects are laid, some of them stand still -/
theorem SR.grow (s : SR K B F H st σ fp) (h1 : Same H H') (h2 : Same F F') (h3 : ∀ a, H a ≠ none → F' a = F a) (h4 : Same F' H') : SR K B F' H' st σ fp where
  len := s.len
  bh := s.bh.trans h1
  fh := h4
  sl := fun i d e => by
    obtain ⟨v, e1, o⟩ := s.sl i d e
    refine ⟨v, e1, o.frame h2 d v _ (fun a ha => ?_) (fun a ha => ?_) fun a ha => (s.hold ha).2.2⟩
    · have n := (s.hold ha).1
      cases q : H a with
      | none => exact absurd q n
      | some u => exact h1 _ _ q
    · rw [h3 a (s.hold ha).1]
      exact (s.hold ha).2.1
  em := s.em
  nd := s.nd
  dj := s.dj
theorem Gr.of (s : SR K B F H st σ fp) (h2 : Same F F') (h3 : ∀ a, H a ≠ none → F' a = F a) : Gr B F F' := ⟨h2, fun a n => h3 a fun z => by
  cases q : B a with
  | none => exact n q
  | some o => rw [s.bh a o q] at z; cases z⟩
/-- a value given up -/
theorem RV.fz {d : D} {v : V} {fv : List Addr} (s : SR K B F H st σ fp) (r : RV K B F H fp d v fv) : ∃ F', Gr B F F' ∧ SR K B F' H st σ fp ∧ Rp K F' d.fz v := by
  have m := Ow.mem d v fv r.ow
  refine ⟨ovl F H fv, ⟨ovl_same fun a ha => (m a ha).2.1, fun a n => ovl_out fun z => n (m a z).2.2⟩, ?_, Ow.freeze (ovl_same fun a ha => (m a ha).2.1) d v fv r.ow fun a ha => ovl_in ha⟩
  refine ⟨s.len, s.bh, ovl_sub s.fh, fun i d' e => ?_, s.em, s.nd, s.dj⟩
  obtain ⟨v', e1, o⟩ := s.sl i d' e
  exact ⟨v', e1, o.frame (ovl_same fun a ha => (m a ha).2.1) d' v' _ (fun a _ => rfl) (fun a ha => by rw [ovl_out (r.ap i a ha)]; exact (s.hold ha).2.1) fun a ha => (s.hold ha).2.2⟩
theorem RV.imm {d : D} {v : V} (r : Rp K F d v) : RV K B F H fp d v [] := ⟨.imm r, List.nodup_nil, fun _ _ _ z => by cases z⟩
end
end MP

/-! MP1: the judgements; names, constants, operators. -/
namespace MP
open PySem L2

/-! ### slots -/
def gt : S → Nat → Option D
  | [], _ => none
  | x :: _, 0 => x
  | _ :: r, i + 1 => gt r i
def pt : S → Nat → Option D → S
  | [], _, _ => []
  | _ :: r, 0, d => d :: r
  | x :: r, i + 1, d => x :: pt r i d
theorem gt_eq : ∀ {st : S} {i : Nat} {d : D}, gt st i = some d ↔ st[i]? = some (some d)
  | [], i, d => by simp [gt]
  | x :: r, 0, d => by simp [gt]
  | x :: r, i + 1, d => by
    show gt r i = some d ↔ _
    rw [gt_eq]
    simp
theorem pt_eq : ∀ (st : S) (i : Nat) (d : Option D), pt st i d = st.set i d
  | [], _, _ => rfl
  | x :: r, 0, d => rfl
  | x :: r, i + 1, d => by show x :: pt r i d = x :: r.set i d; rw [pt_eq r i d]
theorem pt_length (st : S) (i : Nat) (d : Option D) : (pt st i d).length = st.length := by rw [pt_eq, List.length_set]
theorem pt_self {st : S} {i : Nat} {d : Option D} (h : i < st.length) : (pt st i d)[i]? = some d := by rw [pt_eq, List.getElem?_set_self h]
theorem pt_ne {st : S} {i j : Nat} {d : Option D} (h : i ≠ j) : (pt st i d)[j]? = st[j]? := by rw [pt_eq, List.getElem?_set_ne h]

/-! ### readings -/
abbrev EM := S → Option (D × S)
abbrev TM := S → Option (Bool × S)
/-- an operand: a slot, looked at when the operation is done; or data -/
inductive Hd where
  | nm (i : Nat) | dt (d : D)
def Hd.get : Hd → S → Option D
  | .nm i, st => gt st i
  | .dt d, _ => some d
abbrev OM := S → Option (Hd × S)
def HV (K : PySem.W.Frag) (F : Hp) (σ : L2.St) : Hd → V → Prop
  | .nm i, v => σ[i]? = some (some v)
  | .dt d, v => Rp K F d v
def tM (K : PySem.W.Frag) (m : EM) : TE := fun σ H Q => ∃ B F st fp d st', SR K B F H st σ fp ∧ m st = some (d, st') ∧ ∀ v H' F' fp' fv, Gr B F F' → SR K B F' H' st' σ fp' → RV K B F' H' fp' d v fv → Q v H'
def tV (K : PySem.W.Frag) (m : EM) : TE := fun σ H Q => ∃ B F st fp d st', SR K B F H st σ fp ∧ m st = some (d, st') ∧ ∀ v H' F' fp', Gr B F F' → SR K B F' H' st' σ fp' → Rp K F' d v → Q v H'
def tH (K : PySem.W.Frag) (m : OM) : TE := fun σ H Q => ∃ B F st fp h st', SR K B F H st σ fp ∧ m st = some (h, st') ∧ ∀ v H' F' fp', Gr B F F' → SR K B F' H' st' σ fp' → HV K F' σ h v → Q v H'
def tT (K : PySem.W.Frag) (m : TM) : TT := fun σ H Q => ∃ B F st fp b st', SR K B F H st σ fp ∧ m st = some (b, st') ∧ ∀ H' F' fp', Gr B F F' → SR K B F' H' st' σ fp' → Q b H'
abbrev ME (X : Cx) (e : Expr) (m : EM) : Prop := PE X e (tM X.K m)
abbrev VE (X : Cx) (e : Expr) (m : EM) : Prop := PE X e (tV X.K m)
abbrev OE (X : Cx) (e : Expr) (m : OM) : Prop := PE X e (tH X.K m)
abbrev BE (X : Cx) (e : Expr) (m : TM) : Prop := PT X e (tT X.K m)
theorem PE.mono {X : Cx} {e : Expr} {t t' : TE} (h : PE X e t) (k : ∀ σ H Q, t' σ H Q → t σ H Q) : PE X e t' := ⟨fun pins s σ H Q I q => h.run pins s σ H Q I (k σ H Q q)⟩
theorem PT.mono {X : Cx} {e : Expr} {t t' : TT} (h : PT X e t) (k : ∀ σ H Q, t' σ H Q → t σ H Q) : PT X e t' := ⟨fun pins s σ H Q I q => h.run pins s σ H Q I (k σ H Q q)⟩
theorem PS.mono {X : Cx} {e : Stmt} {t t' : TS} (h : PS X e t) (k : ∀ D σ H, t' D σ H → t D σ H) : PS X e t' := ⟨fun pins s σ H D I q => h.run pins s σ H D I (k D σ H q)⟩
theorem PSs.mono {X : Cx} {e : List Stmt} {t t' : TS} (h : PSs X e t) (k : ∀ D σ H, t' D σ H → t D σ H) : PSs X e t' := ⟨fun pins s σ H D I q => h.run pins s σ H D I (k D σ H q)⟩

section
variable {K : PySem.W.Frag} {B F F' H H' : Hp} {st : S} {σ : L2.St} {fp : Nat → List Addr}
theorem SR.slot (s : SR K B F H st σ fp) {i : Nat} {d : D} (h : gt st i = some d) : ∃ v, σ[i]? = some (some v) ∧ Ow K B F H d v (fp i) := s.sl i d (gt_eq.mp h)
/-- an operand, looked at -/
theorem SR.look (s : SR K B F H st σ fp) {h : Hd} {v : V} (hv : HV K F σ h v) {d : D} (e : h.get st = some d) : ∃ fv, Ow K B F H d v fv := by
  cases h with
  | nm i =>
    obtain ⟨w, e1, o⟩ := s.slot e
    have hv' : σ[i]? = some (some v) := hv
    rw [hv'] at e1
    cases e1
    exact ⟨_, o⟩
  | dt d' =>
    have e' : some d' = some d := e
    cases e'
    exact ⟨[], .imm hv⟩
theorem HV.mono (g : Same F F') {h : Hd} {v : V} (hv : HV K F σ h v) : HV K F' σ h v := by
  cases h with
  | nm i => exact hv
  | dt d => exact Rp.mono g _ _ hv
end

/-- a value beside the heap H: what is new in it is not in H -/
def New (K : PySem.W.Frag) (B F H : Hp) (d : D) (Q : VK) : Prop := ∀ v H' F' fv, Same H H' → Same F F' → (∀ a, H a ≠ none → F' a = F a) → Same F' H' → Ow K B F' H' d v fv → fv.Nodup → (∀ a ∈ fv, H a = none) → Q v H'
section
variable {K : PySem.W.Frag} {B F F' H H' : Hp} {st : S} {σ : L2.St} {fp : Nat → List Addr} {Q : VK} {d : D} {v : V}
theorem new_imm (n : New K B F H d Q) (fh : Same F H) (r : Rp K F d v) : Q v H := n v H F [] (.refl _) (.refl _) (fun _ _ => rfl) fh (.imm r) List.nodup_nil fun _ z => by cases z
theorem same_new {H : Hp} {p : Addr} {o : HO} (h : H p = none) : Same H (upd H p o) := fun b x e => by rw [upd_ne (ne_of_none e h)]; exact e
theorem sub_none {F H : Hp} {p : Addr} (s : Same F H) (h : H p = none) : F p = none := by
  cases q : F p with
  | none => rfl
  | some o => rw [s p o q] at h; cases h
theorem same_upd2 {F H : Hp} {p : Addr} {o : HO} (s : Same F H) : Same (upd F p o) (upd H p o) := fun b x e => by
  by_cases hb : b = p
  · subst hb; rw [upd_same] at e ⊢; exact e
  · rw [upd_ne hb] at e ⊢; exact s b x e
theorem new_tup {ds : List D} {vs : List V} {p : Addr} (n : New K B F H (.tup ds) Q) (fh : Same F H) (hp : H p = none) (r : Rps K F ds vs) : Q (.ref p) (upd H p (.tup vs)) := by
  have fp0 := sub_none fh hp
  refine n (.ref p) _ (upd F p (.tup vs)) [] (same_new hp) (same_new fp0) (fun a ha => upd_ne fun z => ha (by rw [z]; exact hp)) (same_upd2 fh) (.imm (.tup (SqT.of upd_same) (Rps.mono (same_new fp0) _ _ r))) List.nodup_nil fun _ z => by cases z
theorem new_lst {ds : List D} {vs : List V} {p : Addr} {fs : List Addr} (n : New K B F H (.lst true ds) Q) (bh : Same B H) (fh : Same F H) (hp : H p = none) (r : Rps K F ds vs) : Q (.ref p) (upd H p (.lst vs)) := by
  have fp0 := sub_none fh hp
  refine n (.ref p) _ F [p] (same_new hp) (.refl _) (fun _ _ => rfl) (fh.trans (same_new hp)) (.lst upd_same fp0 (sub_none bh hp) (Ows.of r)) (by simp) fun a z => by
    have e : a = p := by simpa using z
    rw [e]; exact hp
theorem New.go {B' : Hp} {m : EM} {st' : S} (s : SR K B F H st σ fp) (k : ∀ v H' F' fp' fv, Gr B F F' → SR K B F' H' st σ fp' → RV K B F' H' fp' d v fv → Q v H') : New K B F H d Q := fun v H' F' fv h1 h2 h3 h4 o nd hn =>
  k v H' F' fp fv (.of s h2 h3) (s.grow h1 h2 h3 h4) ⟨o, nd, fun i a ha z => (s.hold ha).1 (hn a z)⟩
end

/-! ### a one-, two-place operation on data -/
def UnOk (X : Cx) (r : V → Hp → VK → Prop) (g : D → Option D) : Prop := ∀ B F H d v f z Q, Same B H → Same F H → Ow X.K B F H d v f → g d = some z → New X.K B F H z Q → r v H Q
def BinOk (X : Cx) (r : R2) (g : D → D → Option D) : Prop := ∀ B F H d e v w f f' z Q, Same B H → Same F H → Ow X.K B F H d v f → Ow X.K B F H e w f' → g d e = some z → New X.K B F H z Q → r v w H Q
theorem BinOk.or1 {X : Cx} {r r' : R2} {g : D → D → Option D} (h : BinOk X r g) : BinOk X (fun x y H Q => r x y H Q ∨ r' x y H Q) g := fun B F H d e v w f f' z Q a b c d' e' n => .inl (h B F H d e v w f f' z Q a b c d' e' n)

/-! ### names, constants -/
def mC (d : D) : EM := fun st => some (d, st)
def oNm (i : Nat) : OM := fun st => match gt st i with
  | some _ => some (.nm i, st)
  | none => none
def oEx (m : EM) : OM := fun st => match m st with
  | some (d, st') => some (.dt d, st')
  | none => none
/-- given up: the value of an expression where more than one will hold it -/
def mFz (m : EM) : EM := fun st => match m st with
  | some (d, st') => some (d.fz, st')
  | none => none
/-- the value of a name -/
def mNm (i : Nat) : EM := fun st => match gt st i with
  | some d => match d.own with
    | true => some (d.fz, pt st i (some d.fz))
    | false => some (d, st)
  | none => none
/-- a name that is not used any more: its value is handed on as it is held -/
def mMv (i : Nat) : EM := fun st => match gt st i with
  | some d => some (d, pt st i none)
  | none => none
section
variable {X : Cx} {e : Expr} {m : EM}
theorem j_fz (h : ME X e m) : VE X e (mFz m) := PE.mono h fun σ H Q ⟨B, F, st, fp, d, st', s, em, k⟩ => by
  unfold mFz at em
  cases q : m st with
  | none => rw [q] at em; cases em
  | some z =>
    obtain ⟨d1, st1⟩ := z
    rw [q] at em
    cases em
    refine ⟨B, F, st, fp, d1, st', s, q, fun v H' F' fp' fv g s' r => ?_⟩
    obtain ⟨F2, g2, s2, r2⟩ := r.fz s'
    exact k v H' F2 fp' (g.trans g2) s2 r2
theorem j_up (h : VE X e m) : ME X e m := PE.mono h fun σ H Q ⟨B, F, st, fp, d, st', s, em, k⟩ =>
  ⟨B, F, st, fp, d, st', s, em, fun v H' F' fp' g s' r => k v H' F' fp' [] g s' (RV.imm r)⟩
theorem j_ox (h : VE X e m) : OE X e (oEx m) := PE.mono h fun σ H Q ⟨B, F, st, fp, hd, st', s, em, k⟩ => by
  unfold oEx at em
  cases q : m st with
  | none => rw [q] at em; cases em
  | some z =>
    obtain ⟨d1, st1⟩ := z
    rw [q] at em
    cases em
    exact ⟨B, F, st, fp, d1, st', s, q, fun v H' F' fp' g s' r => k v H' F' fp' g s' r⟩
theorem j_c {d : D} {v : V} (h : PE X e (tC v)) (r : ∀ F, Rp X.K F d v) : VE X e (mC d) := PE.mono h fun σ H Q ⟨B, F, st, fp, hd, st', s, em, k⟩ => by
  cases em
  exact k v H F fp .refl s (r F)
theorem j_int {i : Int} {j pos} : VE X (.Constant (.int i) j pos) (mC (.int i)) := j_c pe_int fun _ => .int _
theorem j_bl {b : Bool} {j pos} : VE X (.Constant (.bool b) j pos) (mC (.bl b)) := j_c pe_bl fun _ => .bl _
theorem j_non {j pos} : VE X (.Constant .none j pos) (mC .non) := j_c pe_non fun _ => .non
theorem j_str {x : Str} {j pos} : VE X (.Constant (.str x) j pos) (mC (.str x)) := j_c pe_str fun _ => .str _
/-- a name as an operand -/
theorem j_on {i : Nat} (h : PE X e (tVar i)) : OE X e (oNm i) := PE.mono h fun σ H Q ⟨B, F, st, fp, hd, st', s, em, k⟩ => by
  unfold oNm at em
  cases q : gt st i with
  | none => rw [q] at em; cases em
  | some d =>
    rw [q] at em
    cases em
    obtain ⟨v, e1, o⟩ := s.slot q
    exact ⟨v, e1, k v H F fp .refl s e1⟩
theorem SR.drop {K : PySem.W.Frag} {B F H : Hp} {st : S} {σ : L2.St} {fp : Nat → List Addr} (s : SR K B F H st σ fp) (i : Nat) : SR K B F H (pt st i none) σ (fun j => if j = i then [] else fp j) where
  len := by rw [pt_length]; exact s.len
  bh := s.bh
  fh := s.fh
  sl := fun j d e => by
    by_cases hj : i = j
    · subst hj
      by_cases hl : i < st.length
      · rw [pt_self hl] at e; cases e
      · rw [List.getElem?_eq_none (by rw [pt_length]; omega)] at e; cases e
    · rw [pt_ne hj] at e
      rw [if_neg (Ne.symm hj)]
      exact s.sl j d e
  em := fun j e => by
    by_cases hj : j = i
    · rw [if_pos hj]
    · rw [if_neg hj]
      refine s.em j fun d z => e d ?_
      rw [pt_ne (Ne.symm hj)]
      exact z
  nd := fun j => by
    by_cases hj : j = i
    · rw [if_pos hj]; exact List.nodup_nil
    · rw [if_neg hj]; exact s.nd j
  dj := fun a b x ha hb => by
    by_cases h1 : a = i
    · rw [if_pos h1] at ha; cases ha
    · by_cases h2 : b = i
      · rw [if_pos h2] at hb; cases hb
      · rw [if_neg h1] at ha
        rw [if_neg h2] at hb
        exact s.dj a b x ha hb
/-- a slot stored -/
theorem SR.put {K : PySem.W.Frag} {B F H : Hp} {st : S} {σ : L2.St} {fp : Nat → List Addr} (s : SR K B F H st σ fp) {i : Nat} (hi : i < st.length) {d : D} {v : V} {fv : List Addr} (r : RV K B F H fp d v fv) :
    SR K B F H (pt st i (some d)) (σ.set i (some v)) (fun j => if j = i then fv else fp j) where
  len := by rw [pt_length, List.length_set]; exact s.len
  bh := s.bh
  fh := s.fh
  sl := fun j d' e => by
    by_cases hj : i = j
    · subst hj
      rw [pt_self hi] at e
      cases e
      rw [if_pos rfl]
      exact ⟨v, List.getElem?_set_self (by rw [← s.len]; exact hi), r.ow⟩
    · rw [pt_ne hj] at e
      rw [if_neg (Ne.symm hj), List.getElem?_set_ne hj]
      exact s.sl j d' e
  em := fun j e => by
    by_cases hj : j = i
    · subst hj
      exact absurd (pt_self hi) (e d)
    · rw [if_neg hj]
      refine s.em j fun d z => e d ?_
      rw [pt_ne (Ne.symm hj)]
      exact z
  nd := fun j => by
    by_cases hj : j = i
    · rw [if_pos hj]; exact r.nd
    · rw [if_neg hj]; exact s.nd j
  dj := fun a b x ha hb => by
    by_cases h1 : a = i
    · by_cases h2 : b = i
      · rw [h1, h2]
      · rw [if_pos h1] at ha
        rw [if_neg h2] at hb
        exact absurd ha (r.ap b x hb)
    · by_cases h2 : b = i
      · rw [if_neg h1] at ha
        rw [if_pos h2] at hb
        exact absurd hb (r.ap a x ha)
      · rw [if_neg h1] at ha
        rw [if_neg h2] at hb
        exact s.dj a b x ha hb
/-- a slot's data told otherwise, the value as it is -/
theorem SR.tell {K : PySem.W.Frag} {B F H : Hp} {st : S} {σ : L2.St} {fp : Nat → List Addr} (s : SR K B F H st σ fp) {i : Nat} {d : D} {v : V} {fv : List Addr} (hv : σ[i]? = some (some v)) (r : RV K B F H (fun j => if j = i then [] else fp j) d v fv) :
    SR K B F H (pt st i (some d)) σ (fun j => if j = i then fv else fp j) := by
  have hi : i < st.length := by
    rw [s.len]
    exact (List.getElem?_eq_some_iff.mp hv).1
  have q := (s.drop i).put (i := i) (by rw [pt_length]; exact hi) r
  have e1 : pt (pt st i none) i (some d) = pt st i (some d) := by rw [pt_eq, pt_eq, pt_eq, List.set_set]
  have e2 : σ.set i (some v) = σ := by
    obtain ⟨h1, h2⟩ := List.getElem?_eq_some_iff.mp hv
    rw [← h2, List.set_getElem_self]
  rw [e1, e2] at q
  have e3 : (fun j => if j = i then fv else (fun j => if j = i then [] else fp j) j) = fun j => if j = i then fv else fp j := by
    funext j
    by_cases hj : j = i
    · rw [if_pos hj, if_pos hj]
    · rw [if_neg hj, if_neg hj]; exact if_neg hj
  rw [e3] at q
  exact q
theorem SR.rv {K : PySem.W.Frag} {B F H : Hp} {st : S} {σ : L2.St} {fp : Nat → List Addr} (s : SR K B F H st σ fp) {i : Nat} {d : D} {v : V} (o : Ow K B F H d v (fp i)) : RV K B F H (fun j => if j = i then [] else fp j) d v (fp i) :=
  ⟨o, s.nd i, fun j a ha z => by
    by_cases hj : j = i
    · rw [if_pos hj] at ha; cases ha
    · rw [if_neg hj] at ha
      exact hj (s.dj j i a ha z)⟩
theorem j_nm {i : Nat} (h : PE X e (tVar i)) : VE X e (mNm i) := PE.mono h fun σ H Q ⟨B, F, st, fp, hd, st', s, em, k⟩ => by
  unfold mNm at em
  cases q : gt st i with
  | none => rw [q] at em; cases em
  | some d =>
    rw [q] at em
    obtain ⟨v, e1, o⟩ := s.slot q
    refine ⟨v, e1, ?_⟩
    cases w : d.own with
    | false =>
      simp only [w] at em
      cases em
      exact k v H F fp .refl s (o.rp w).1
    | true =>
      simp only [w] at em
      cases em
      obtain ⟨F2, g2, s2, r2⟩ := (s.rv o).fz (s.drop i)
      have s3 := s2.tell (i := i) (d := d.fz) e1 (RV.imm r2)
      have e4 : pt (pt st i none) i (some d.fz) = pt st i (some d.fz) := by rw [pt_eq, pt_eq, pt_eq, List.set_set]
      rw [e4] at s3
      exact k v H F2 _ g2 s3 r2
theorem j_mv {i : Nat} (h : PE X e (tVar i)) : ME X e (mMv i) := PE.mono h fun σ H Q ⟨B, F, st, fp, hd, st', s, em, k⟩ => by
  unfold mMv at em
  cases q : gt st i with
  | none => rw [q] at em; cases em
  | some d =>
    rw [q] at em
    cases em
    obtain ⟨v, e1, o⟩ := s.slot q
    exact ⟨v, e1, k v H F _ _ .refl (s.drop i) (s.rv o)⟩

/-! ### operators -/
def mUn (g : D → Option D) (o : OM) : EM := fun st => match o st with
  | some (h, st1) => match h.get st1 with
    | some d => match g d with
      | some z => some (z, st1)
      | none => none
    | none => none
  | none => none
def mBin (g : D → D → Option D) (o1 o2 : OM) : EM := fun st => match o1 st with
  | some (h1, st1) => match o2 st1 with
    | some (h2, st2) => match h1.get st2 with
      | some d => match h2.get st2 with
        | some e => match g d e with
          | some z => some (z, st2)
          | none => none
        | none => none
      | none => none
    | none => none
  | none => none
theorem mUn_some {g : D → Option D} {o : OM} {st st' : S} {z : D} (h : mUn g o st = some (z, st')) : ∃ hd d, o st = some (hd, st') ∧ hd.get st' = some d ∧ g d = some z := by
  unfold mUn at h
  cases q : o st with
  | none => rw [q] at h; cases h
  | some w =>
    obtain ⟨hd, st1⟩ := w
    rw [q] at h
    simp only at h
    cases q1 : hd.get st1 with
    | none => rw [q1] at h; cases h
    | some d =>
      rw [q1] at h
      simp only at h
      cases q2 : g d with
      | none => rw [q2] at h; cases h
      | some z' => rw [q2] at h; cases h; exact ⟨hd, d, rfl, q1, q2⟩
theorem mBin_some {g : D → D → Option D} {o1 o2 : OM} {st st2 : S} {z : D} (h : mBin g o1 o2 st = some (z, st2)) : ∃ h1 st1 h2 d e, o1 st = some (h1, st1) ∧ o2 st1 = some (h2, st2) ∧ h1.get st2 = some d ∧ h2.get st2 = some e ∧ g d e = some z := by
  unfold mBin at h
  cases q : o1 st with
  | none => rw [q] at h; cases h
  | some w =>
    obtain ⟨h1, st1⟩ := w
    rw [q] at h
    simp only at h
    cases p : o2 st1 with
    | none => rw [p] at h; cases h
    | some w2 =>
      obtain ⟨h2, st3⟩ := w2
      rw [p] at h
      simp only at h
      cases q1 : h1.get st3 with
      | none => rw [q1] at h; cases h
      | some d =>
        rw [q1] at h
        simp only at h
        cases q3 : h2.get st3 with
        | none => rw [q3] at h; cases h
        | some e =>
          rw [q3] at h
          simp only at h
          cases q2 : g d e with
          | none => rw [q2] at h; cases h
          | some z' => rw [q2] at h; cases h; exact ⟨h1, st1, h2, d, e, rfl, p, q1, q3, q2⟩
variable {a b : Expr} {o o1 o2 : OM} {g : D → D → Option D} {g1 : D → Option D} {pos : Pos}
/-- the reading of two operands, then an operation by values -/
theorem read2 {r : R2} (hr : BinOk X r g) {σ : L2.St} {H : Hp} {Q : VK} (h : tM X.K (mBin g o1 o2) σ H Q) : tOp r (tH X.K o1) (tH X.K o2) σ H Q := by
  obtain ⟨B, F, st, fp, z, st2, s, em, k⟩ := h
  obtain ⟨h1, st1, h2, d, e, q1, q2, q3, q4, q5⟩ := mBin_some em
  refine ⟨B, F, st, fp, h1, st1, s, q1, fun v H1 F1 fp1 g1 s1 r1 => ⟨B, F1, st1, fp1, h2, st2, s1, q2, fun w H2 F2 fp2 g2 s2 r2 => ?_⟩⟩
  obtain ⟨f1, o1⟩ := s2.look (r1.mono g2.ex) q3
  obtain ⟨f2, o2⟩ := s2.look r2 q4
  exact hr B F2 H2 d e v w f1 f2 z Q s2.bh s2.fh o1 o2 q5 (New.go (B' := B) (m := mC z) (st' := st2) s2 fun v' H' F' fp' fv g s' r' => k v' H' F' fp' fv ((g1.trans g2).trans g) s' r')
theorem read1 {r : V → Hp → VK → Prop} (hr : UnOk X r g1) {σ : L2.St} {H : Hp} {Q : VK} (h : tM X.K (mUn g1 o) σ H Q) : tUn r (tH X.K o) σ H Q := by
  obtain ⟨B, F, st, fp, z, st1, s, em, k⟩ := h
  obtain ⟨h1, d, q1, q3, q5⟩ := mUn_some em
  refine ⟨B, F, st, fp, h1, st1, s, q1, fun v H1 F1 fp1 g1 s1 r1 => ?_⟩
  obtain ⟨f1, o1⟩ := s1.look r1 q3
  exact hr B F1 H1 d v f1 z Q s1.bh s1.fh o1 q5 (New.go (B' := B) (m := mC z) (st' := st1) s1 fun v' H' F' fp' fv g s' r' => k v' H' F' fp' fv (g1.trans g) s' r')
/-- what is told as tM, where the data is never held by one: tV -/
theorem j_down {m : EM} (h : ME X e m) (n : ∀ st d st', m st = some (d, st') → d.own = false) : VE X e m := PE.mono h fun σ H Q ⟨B, F, st, fp, d, st', s, em, k⟩ =>
  ⟨B, F, st, fp, d, st', s, em, fun v H' F' fp' fv g s' r => k v H' F' fp' g s' (r.ow.rp (n st d st' em)).1⟩
theorem j_bin {op : Operator} {r : R2} (ho : OpR X (binaryOp op) r) (hr : BinOk X r g) (ha : OE X a o1) (hb : OE X b o2) : ME X (.BinOp a op b pos) (mBin g o1 o2) :=
  PE.mono (pe_op ho ha hb) fun σ H Q h => read2 hr h
theorem mBin_own (n : ∀ d e z, g d e = some z → z.own = false) : ∀ st d st', mBin g o1 o2 st = some (d, st') → d.own = false := fun st d st' h => by
  obtain ⟨_, _, _, d1, e1, _, _, _, _, q⟩ := mBin_some h
  exact n d1 e1 d q
theorem mUn_own (n : ∀ d z, g1 d = some z → z.own = false) : ∀ st d st', mUn g1 o st = some (d, st') → d.own = false := fun st d st' h => by
  obtain ⟨_, d1, _, _, q⟩ := mUn_some h
  exact n d1 d q
theorem j_binV {op : Operator} {r : R2} (ho : OpR X (binaryOp op) r) (hr : BinOk X r g) (n : ∀ d e z, g d e = some z → z.own = false) (ha : OE X a o1) (hb : OE X b o2) : VE X (.BinOp a op b pos) (mBin g o1 o2) :=
  j_down (j_bin ho hr ha hb) (mBin_own n)
theorem j_cmp {op : CmpOp} {r : R2} (ho : OpR X (compareOp op) r) (hr : BinOk X r g) (n : ∀ d e z, g d e = some z → z.own = false) (ha : OE X a o1) (hb : OE X b o2) (hm : behindInMarks op b = false) : VE X (.Compare a [op] [b] pos) (mBin g o1 o2) :=
  j_down (PE.mono (pe_cmpR ho ha hb hm) fun σ H Q h => read2 hr h) (mBin_own n)
/-- a data operation that answers with a bool, as a test -/
def tBin (g : D → D → Option Bool) (o1 o2 : OM) : TM := fun st => match mBin (fun d e => (g d e).map D.bl) o1 o2 st with
  | some (.bl b, st') => some (b, st')
  | _ => none
def liftB (g : D → D → Option Bool) : D → D → Option D := fun d e => match g d e with
  | some b => some (.bl b)
  | none => none
theorem liftB_own (g : D → D → Option Bool) : ∀ d e z, liftB g d e = some z → z.own = false := fun d e z h => by
  unfold liftB at h
  split at h
  · cases h; rfl
  · cases h
/-- a test by a value that is a bool -/
def tOf (m : EM) : TM := fun st => match m st with
  | some (.bl b, st') => some (b, st')
  | _ => none
theorem tOf_some {m : EM} {st st' : S} {b : Bool} (h : tOf m st = some (b, st')) : m st = some (.bl b, st') := by
  unfold tOf at h
  split at h
  · rename_i b' st1 q
    cases h
    exact q
  · cases h
theorem j_tcmp {op : CmpOp} {r : R2} (ho : OpR X (compareOp op) r) (hr : BinOk X r g) (ha : OE X a o1) (hb : OE X b o2) (hm : behindInMarks op b = false) : BE X (.Compare a [op] [b] pos) (tOf (mBin g o1 o2)) :=
  PT.mono (pt_cmpR ho ha hb hm) fun σ H Q ⟨B, F, st, fp, c, st', s, em, k⟩ => read2 hr ⟨B, F, st, fp, .bl c, st', s, tOf_some em, fun v H' F' fp' fv g s' r' => by
    have q := (r'.ow.rp rfl).1
    cases q
    exact ⟨c, rfl, k H' F' fp' g s'⟩⟩
/-- a bool as a test -/
theorem j_tval {m : EM} (h : VE X e m) (he : ∀ whole, isTrue e X.env whole = (do let v ← whole; standAt e.pos; holding [v] (truthy v)) := by intro _; rfl) : BE X e (tOf m) :=
  PT.mono (pt_val h he) fun σ H Q ⟨B, F, st, fp, c, st', s, em, k⟩ => ⟨B, F, st, fp, .bl c, st', s, tOf_some em, fun v H' F' fp' g s' r' => by
    cases r'
    exact ⟨c, rfl, k H' F' fp' g s'⟩⟩

/-! ### and, or, not, if -/
def tAn (t u : TM) : TM := fun st => match t st with
  | some (true, st1) => u st1
  | some (false, st1) => some (false, st1)
  | none => none
def tOo (t u : TM) : TM := fun st => match t st with
  | some (true, st1) => some (true, st1)
  | some (false, st1) => u st1
  | none => none
def tNo (t : TM) : TM := fun st => match t st with
  | some (b, st1) => some (!b, st1)
  | none => none
variable {t u : TM} {rest : List Expr}
/-- whatever the whole is -/
structure WE (X : Cx) (e : Expr) (m : TM) : Prop where
  pw : PW X e (tT X.K m)
theorem WE.be {e : Expr} (h : WE X e t) : BE X e t := h.pw.pt
theorem PW.mono {e : Expr} {t t' : TT} (h : PW X e t) (k : ∀ σ H Q, t' σ H Q → t σ H Q) : PW X e t' := ⟨fun wh pins s σ H Q I q => h.run wh pins s σ H Q I (k σ H Q q)⟩
theorem j_and1 (ha : BE X a t) : WE X (.BoolOp .And [a] pos) t := ⟨pw_and1 ha⟩
theorem j_or1 (ha : BE X a t) : WE X (.BoolOp .Or [a] pos) t := ⟨pw_or1 ha⟩
theorem j_and (ha : BE X a t) (hb : WE X (.BoolOp .And (b :: rest) pos) u) : WE X (.BoolOp .And (a :: b :: rest) pos) (tAn t u) := ⟨PW.mono (pw_and ha hb.pw) fun σ H Q ⟨B, F, st, fp, c, st', s, em, k⟩ => by
  unfold tAn at em
  cases q : t st with
  | none => rw [q] at em; cases em
  | some w =>
    obtain ⟨b1, st1⟩ := w
    rw [q] at em
    refine ⟨B, F, st, fp, b1, st1, s, q, fun H1 F1 fp1 g1 s1 => ?_⟩
    cases b1 with
    | true =>
      rw [if_pos rfl]
      exact ⟨B, F1, st1, fp1, c, st', s1, em, fun H' F' fp' g s' => k H' F' fp' (g1.trans g) s'⟩
    | false =>
      rw [if_neg Bool.false_ne_true]
      cases em
      exact k H1 F1 fp1 g1 s1⟩
theorem j_or (ha : BE X a t) (hb : WE X (.BoolOp .Or (b :: rest) pos) u) : WE X (.BoolOp .Or (a :: b :: rest) pos) (tOo t u) := ⟨PW.mono (pw_or ha hb.pw) fun σ H Q ⟨B, F, st, fp, c, st', s, em, k⟩ => by
  unfold tOo at em
  cases q : t st with
  | none => rw [q] at em; cases em
  | some w =>
    obtain ⟨b1, st1⟩ := w
    rw [q] at em
    refine ⟨B, F, st, fp, b1, st1, s, q, fun H1 F1 fp1 g1 s1 => ?_⟩
    cases b1 with
    | false =>
      rw [if_neg Bool.false_ne_true]
      exact ⟨B, F1, st1, fp1, c, st', s1, em, fun H' F' fp' g s' => k H' F' fp' (g1.trans g) s'⟩
    | true =>
      rw [if_pos rfl]
      cases em
      exact k H1 F1 fp1 g1 s1⟩
theorem j_not (ha : BE X a t) : BE X (.UnaryOp .Not a pos) (tNo t) := PT.mono (pt_not ha) fun σ H Q ⟨B, F, st, fp, c, st', s, em, k⟩ => by
  unfold tNo at em
  cases q : t st with
  | none => rw [q] at em; cases em
  | some w =>
    obtain ⟨b1, st1⟩ := w
    rw [q] at em
    cases em
    exact ⟨B, F, st, fp, b1, _, s, q, fun H1 F1 fp1 g1 s1 => k H1 F1 fp1 g1 s1⟩
/-- as values: bools -/
def mAn (m n : EM) : EM := fun st => match m st with
  | some (.bl true, st1) => n st1
  | some (.bl false, st1) => some (.bl false, st1)
  | _ => none
def mOo (m n : EM) : EM := fun st => match m st with
  | some (.bl true, st1) => some (.bl true, st1)
  | some (.bl false, st1) => n st1
  | _ => none
def mNo (m : EM) : EM := fun st => match m st with
  | some (.bl b, st1) => some (.bl (!b), st1)
  | _ => none
variable {m n : EM}
theorem j_one {op} (h : VE X a m) : VE X (.BoolOp op [a] pos) m := pe_one h
theorem j_andV (ha : VE X a m) (hb : VE X (.BoolOp .And (b :: rest) pos) n) : VE X (.BoolOp .And (a :: b :: rest) pos) (mAn m n) := PE.mono (pe_and ha hb) fun σ H Q ⟨B, F, st, fp, c, st', s, em, k⟩ => by
  unfold mAn at em
  split at em
  · rename_i st1 q
    refine ⟨B, F, st, fp, _, st1, s, q, fun v H1 F1 fp1 g1 s1 r => ?_⟩
    cases r
    refine ⟨true, rfl, ?_⟩
    rw [if_pos rfl]
    exact ⟨B, F1, st1, fp1, c, st', s1, em, fun v H' F' fp' g s' r' => k v H' F' fp' (g1.trans g) s' r'⟩
  · rename_i st1 q
    cases em
    refine ⟨B, F, st, fp, _, _, s, q, fun v H1 F1 fp1 g1 s1 r => ?_⟩
    cases r
    refine ⟨false, rfl, ?_⟩
    rw [if_neg Bool.false_ne_true]
    exact k _ H1 F1 fp1 g1 s1 (.bl _)
  · cases em
theorem j_orV (ha : VE X a m) (hb : VE X (.BoolOp .Or (b :: rest) pos) n) : VE X (.BoolOp .Or (a :: b :: rest) pos) (mOo m n) := PE.mono (pe_or ha hb) fun σ H Q ⟨B, F, st, fp, c, st', s, em, k⟩ => by
  unfold mOo at em
  split at em
  · rename_i st1 q
    cases em
    refine ⟨B, F, st, fp, _, _, s, q, fun v H1 F1 fp1 g1 s1 r => ?_⟩
    cases r
    refine ⟨true, rfl, ?_⟩
    rw [if_pos rfl]
    exact k _ H1 F1 fp1 g1 s1 (.bl _)
  · rename_i st1 q
    refine ⟨B, F, st, fp, _, st1, s, q, fun v H1 F1 fp1 g1 s1 r => ?_⟩
    cases r
    refine ⟨false, rfl, ?_⟩
    rw [if_neg Bool.false_ne_true]
    exact ⟨B, F1, st1, fp1, c, st', s1, em, fun v H' F' fp' g s' r' => k v H' F' fp' (g1.trans g) s' r'⟩
  · cases em
theorem j_notV (ha : VE X a m) : VE X (.UnaryOp .Not a pos) (mNo m) := PE.mono (pe_not ha) fun σ H Q ⟨B, F, st, fp, c, st', s, em, k⟩ => by
  unfold mNo at em
  split at em
  · rename_i bb st1 q
    cases em
    refine ⟨B, F, st, fp, _, _, s, q, fun v H1 F1 fp1 g1 s1 r => ?_⟩
    cases r
    exact ⟨bb, rfl, k _ H1 F1 fp1 g1 s1 (.bl _)⟩
  · cases em
/-- a if t else b -/
def mIf (t : TM) (m n : EM) : EM := fun st => match t st with
  | some (true, st1) => m st1
  | some (false, st1) => n st1
  | none => none
theorem j_if {c : Expr} (hc : BE X c t) (ha : ME X a m) (hb : ME X b n) : ME X (.IfExp c a b pos) (mIf t m n) := PE.mono (pe_ifExp hc ha hb) fun σ H Q ⟨B, F, st, fp, d, st', s, em, k⟩ => by
  unfold mIf at em
  cases q : t st with
  | none => rw [q] at em; cases em
  | some w =>
    obtain ⟨b1, st1⟩ := w
    rw [q] at em
    refine ⟨B, F, st, fp, b1, st1, s, q, fun H1 F1 fp1 g1 s1 => ?_⟩
    cases b1 with
    | true =>
      rw [if_pos rfl]
      exact ⟨B, F1, st1, fp1, d, st', s1, em, fun v H' F' fp' fv g s' r => k v H' F' fp' fv (g1.trans g) s' r⟩
    | false =>
      rw [if_neg Bool.false_ne_true]
      exact ⟨B, F1, st1, fp1, d, st', s1, em, fun v H' F' fp' fv g s' r => k v H' F' fp' fv (g1.trans g) s' r⟩
end
end MP

/-! MP2: operations on data. -/
namespace MP
open PySem L2
section
variable {K : PySem.W.Frag} {B F H : Hp} {v w : V} {f f' : List Addr} {ds : List D} {o : Bool}
theorem ow_int {i : Int} (h : Ow K B F H (.int i) v f) : v = .int i := by cases h with | imm r => cases r; rfl
theorem ow_str {x : Str} (h : Ow K B F H (.str x) v f) : v = .str x := by cases h with | imm r => cases r; rfl
theorem ow_bl {b : Bool} (h : Ow K B F H (.bl b) v f) : v = .bl b := by cases h with | imm r => cases r; rfl
theorem ow_non (h : Ow K B F H .non v f) : v = .non := by cases h with | imm r => cases r; rfl
theorem ow_tup (h : Ow K B F H (.tup ds) v f) : ∃ a vs, v = .ref a ∧ SqT K F a vs ∧ Rps K F ds vs := by
  cases h with
  | imm r =>
    cases r with
    | tup s r => exact ⟨_, _, rfl, s, r⟩
theorem ow_fro (h : Ow K B F H (.fro ds) v f) : ∃ a vs, v = .ref a ∧ SqL K F a vs ∧ Rps K F ds vs := by
  cases h with
  | imm r =>
    cases r with
    | fro s r => exact ⟨_, _, rfl, s, r⟩
theorem ow_lst (fh : Same F H) (h : Ow K B F H (.lst o ds) v f) : ∃ a vs fs, v = .ref a ∧ H a = some (.lst vs) ∧ Ows K B F H ds vs fs := by
  cases h with
  | imm r =>
    cases r with
    | lst s r => exact ⟨_, _, [], rfl, fh _ _ s, .of r⟩
  | lst a b c r => exact ⟨_, _, _, rfl, a, r⟩
theorem ow_lstP (fh : Same F H) (h : Ow K B F H (.lst o ds) v f) (p : plain ds = true) : ∃ a vs, v = .ref a ∧ H a = some (.lst vs) ∧ Rps K F ds vs := by
  obtain ⟨a, vs, fs, e, h1, r⟩ := ow_lst fh h
  exact ⟨a, vs, e, h1, (r.rps p).1⟩
theorem ow_dic {ks : List Key} (fh : Same F H) (h : Ow K B F H (.dic o ks ds) v f) : ∃ a kvs fs, v = .ref a ∧ H a = some (.dK kvs) ∧ kvs.map (·.1) = ks ∧ Ows K B F H ds (kvs.map (·.2)) fs := by
  cases h with
  | imm r =>
    cases r with
    | dic s k r => exact ⟨_, _, [], rfl, fh _ _ s, k, .of r⟩
  | dic a b c k r => exact ⟨_, _, _, rfl, a, k, r⟩
/-- list, tuple, read-only list: its items, none held by one -/
def itemsOf : D → Option (List D)
  | .lst _ ds => some ds
  | .tup ds => some ds
  | .fro ds => some ds
  | _ => none
theorem ow_items {d : D} (fh : Same F H) (h : Ow K B F H d v f) (e : itemsOf d = some ds) : ∃ a vs fs, v = .ref a ∧ (SqL K H a vs ∨ SqT K H a vs) ∧ Ows K B F H ds vs fs := by
  cases d with
  | lst o ds' =>
    cases e
    obtain ⟨a, vs, fs, e, h1, r⟩ := ow_lst fh h
    exact ⟨a, vs, fs, e, .inl (SqL.of h1), r⟩
  | tup ds' =>
    cases e
    obtain ⟨a, vs, e, h1, r⟩ := ow_tup h
    exact ⟨a, vs, [], e, .inr (fh.sqT h1), .of r⟩
  | fro ds' =>
    cases e
    obtain ⟨a, vs, e, h1, r⟩ := ow_fro h
    exact ⟨a, vs, [], e, .inl (fh.seq h1), .of r⟩
  | _ => cases e
end
theorem szl {n : Nat} (h : n ≤ 16777216) : n ≤ sizeLine := by rw [sizeLine_eq]; exact h

/-! ### + - * // % ** -/
def gAdd : D → D → Option D
  | .int i, .int j => some (.int (i + j))
  | .str x, .str y => if x.length + y.length ≤ 16777216 then some (.str (x ++ y)) else none
  | .lst _ xs, .lst _ ys => if plain xs = true ∧ plain ys = true ∧ xs.length + ys.length ≤ 16777216 then some (.lst true (xs ++ ys)) else none
  | .tup xs, .tup ys => if xs.length + ys.length ≤ 16777216 then some (.tup (xs ++ ys)) else none
  | _, _ => none
def rAddG (K : PySem.W.Frag) : R2 := fun x y H Q => (rI0 fun i j => .int (i + j)) x y H Q ∨ (∃ i j, x = .str i ∧ y = .str j ∧ i.length + j.length ≤ sizeLine ∧ Q (.str (i ++ j)) H) ∨ rCat x y H Q ∨ rCatA K x y H Q
section
variable {X : Cx}
theorem op_addG : OpR X (binaryOp .Add) (rAddG X.K) := op_add.or (op_add_str.or (op_cat.or op_catA))
theorem g_add : BinOk X (rAddG X.K) gAdd := fun B F H d e v w f f' z Q bh fh h1 h2 hg n => by
  unfold gAdd at hg
  split at hg
  · cases hg
    obtain rfl := ow_int h1
    obtain rfl := ow_int h2
    exact .inl ⟨_, _, rfl, rfl, new_imm n fh (.int _)⟩
  · split at hg
    · rename_i hs
      cases hg
      obtain rfl := ow_str h1
      obtain rfl := ow_str h2
      exact .inr (.inl ⟨_, _, rfl, rfl, szl hs, new_imm n fh (.str _)⟩)
    · cases hg
  · split at hg
    · rename_i hs
      cases hg
      obtain ⟨a, vs, rfl, e1, r1⟩ := ow_lstP fh h1 hs.1
      obtain ⟨b, ws, rfl, e2, r2⟩ := ow_lstP fh h2 hs.2.1
      refine .inr (.inr (.inl ⟨a, b, vs, ws, rfl, rfl, e1, e2, szl ?_, fun p hp => new_lst (fs := []) n bh fh hp (r1.append r2)⟩))
      rw [← r1.length, ← r2.length]
      exact hs.2.2
    · cases hg
  · split at hg
    · rename_i hs
      cases hg
      obtain ⟨a, vs, rfl, e1, r1⟩ := ow_tup h1
      obtain ⟨b, ws, rfl, e2, r2⟩ := ow_tup h2
      refine .inr (.inr (.inr ⟨a, b, vs, ws, rfl, rfl, fh.sqT e1, fh.sqT e2, szl ?_, fun e => ?_, fun _ e => ?_, fun _ _ p hp => new_tup n fh hp (r1.append r2)⟩))
      · rw [← r1.length, ← r2.length]
        exact hs
      · subst e
        cases r1
        exact new_imm n fh (.tup e2 r2)
      · subst e
        cases r2
        rw [List.append_nil] at n
        exact new_imm n fh (.tup e1 r1)
    · cases hg
  · cases hg
def gSub : D → D → Option D
  | .int i, .int j => some (.int (i - j))
  | _, _ => none
theorem g_sub : BinOk X (rI0 fun i j => .int (i - j)) gSub := fun B F H d e v w f f' z Q bh fh h1 h2 hg n => by
  unfold gSub at hg
  split at hg
  · cases hg
    obtain rfl := ow_int h1
    obtain rfl := ow_int h2
    exact ⟨_, _, rfl, rfl, new_imm n fh (.int _)⟩
  · cases hg
def gMul : D → D → Option D
  | .int i, .int j => if (-18446744073709551616 < i ∧ i < 18446744073709551616) ∨ (-18446744073709551616 < j ∧ j < 18446744073709551616) then some (.int (i * j)) else none
  | .lst _ xs, .int k => if plain xs = true ∧ -9223372036854775808 ≤ k ∧ k < 9223372036854775808 ∧ xs.length * k.toNat ≤ 16777216 then some (.lst true (List.replicate k.toNat xs).flatten) else none
  | _, _ => none
theorem Rps.rep {K : PySem.W.Frag} {F : Hp} {ds : List D} {vs : List V} (h : Rps K F ds vs) : ∀ k : Nat, Rps K F (List.replicate k ds).flatten (List.replicate k vs).flatten
  | 0 => .nil
  | k + 1 => by
    rw [List.replicate_succ, List.replicate_succ, List.flatten_cons, List.flatten_cons]
    exact h.append (Rps.rep h k)
theorem g_mul : BinOk X (fun x y H Q => (rI CMul fun i j => .int (i * j)) x y H Q ∨ rRep x y H Q) gMul := fun B F H d e v w f f' z Q bh fh h1 h2 hg n => by
  unfold gMul at hg
  split at hg
  · split at hg
    · rename_i hs
      cases hg
      obtain rfl := ow_int h1
      obtain rfl := ow_int h2
      exact .inl ⟨_, _, rfl, rfl, hs, new_imm n fh (.int _)⟩
    · cases hg
  · split at hg
    · rename_i hs
      cases hg
      obtain ⟨a, vs, rfl, e1, r1⟩ := ow_lstP fh h1 hs.1
      obtain rfl := ow_int h2
      refine .inr ⟨a, _, vs, rfl, rfl, e1, hs.2.1, hs.2.2.1, szl ?_, fun p hp => new_lst (fs := []) n bh fh hp (r1.rep _)⟩
      rw [← r1.length]
      exact hs.2.2.2
    · cases hg
  · cases hg
theorem op_mulG : OpR X (binaryOp .Mult) (fun x y H Q => (rI CMul fun i j => .int (i * j)) x y H Q ∨ rRep x y H Q) := op_mul.or op_rep
def gMod : D → D → Option D
  | .int i, .int j => if 0 < j then some (.int (i % j)) else none
  | _, _ => none
theorem g_mod : BinOk X (rI (fun _ j => 0 < j) fun i j => .int (i % j)) gMod := fun B F H d e v w f f' z Q bh fh h1 h2 hg n => by
  unfold gMod at hg
  split at hg
  · split at hg
    · rename_i hs
      cases hg
      obtain rfl := ow_int h1
      obtain rfl := ow_int h2
      exact ⟨_, _, rfl, rfl, hs, new_imm n fh (.int _)⟩
    · cases hg
  · cases hg
def gDiv : D → D → Option D
  | .int i, .int j => if 0 < j ∧ j < 18446744073709551616 then some (.int (i / j)) else none
  | _, _ => none
theorem g_div : BinOk X (rI CDivW fun i j => .int (i / j)) gDiv := fun B F H d e v w f f' z Q bh fh h1 h2 hg n => by
  unfold gDiv at hg
  split at hg
  · split at hg
    · rename_i hs
      cases hg
      obtain rfl := ow_int h1
      obtain rfl := ow_int h2
      exact ⟨_, _, rfl, rfl, wide_div (b := 64) hs.1 (by have e : (2 : Nat) ^ 64 = 18446744073709551616 := by decide
                                                         rw [e]; omega) (by decide) (by decide), new_imm n fh (.int _)⟩
    · cases hg
  · cases hg
def gPow : D → D → Option D
  | .int i, .int j => if 0 ≤ j ∧ j ≤ 1000000 ∧ i.natAbs < 18446744073709551616 then some (.int (i ^ j.toNat)) else none
  | _, _ => none
theorem g_pow : BinOk X (rI CPow fun i j => .int (i ^ j.toNat)) gPow := fun B F H d e v w f f' z Q bh fh h1 h2 hg n => by
  unfold gPow at hg
  split at hg
  · split at hg
    · rename_i hs
      cases hg
      obtain rfl := ow_int h1
      obtain rfl := ow_int h2
      exact ⟨_, _, rfl, rfl, ⟨hs.1, hs.2.1, by have e : (2 : Nat) ^ 64 = 18446744073709551616 := by decide
                                               rw [e]; exact hs.2.2⟩, new_imm n fh (.int _)⟩
    · cases hg
  · cases hg
def gNeg : D → Option D
  | .int i => some (.int (-i))
  | _ => none
theorem g_neg : UnOk X (rU fun i => .int (-i)) gNeg := fun B F H d v f z Q bh fh h1 hg n => by
  unfold gNeg at hg
  split at hg
  · cases hg
    obtain rfl := ow_int h1
    exact ⟨_, rfl, new_imm n fh (.int _)⟩
  · cases hg
variable {a b : Expr} {o1 o2 : OM} {pos : Pos}
theorem gMod_own : ∀ d e z, gMod d e = some z → z.own = false := fun d e z h => by
  unfold gMod at h
  split at h
  · split at h <;> cases h
    rfl
  · cases h
theorem gDiv_own : ∀ d e z, gDiv d e = some z → z.own = false := fun d e z h => by
  unfold gDiv at h
  split at h
  · split at h <;> cases h
    rfl
  · cases h
theorem gPow_own : ∀ d e z, gPow d e = some z → z.own = false := fun d e z h => by
  unfold gPow at h
  split at h
  · split at h <;> cases h
    rfl
  · cases h
theorem j_add (ha : OE X a o1) (hb : OE X b o2) : ME X (.BinOp a .Add b pos) (mBin gAdd o1 o2) := j_bin op_addG g_add ha hb
theorem j_sub (ha : OE X a o1) (hb : OE X b o2) : VE X (.BinOp a .Sub b pos) (mBin gSub o1 o2) := j_binV op_sub g_sub (fun d e z h => by unfold gSub at h; split at h <;> cases h; rfl) ha hb
theorem j_mul (ha : OE X a o1) (hb : OE X b o2) : ME X (.BinOp a .Mult b pos) (mBin gMul o1 o2) := j_bin op_mulG g_mul ha hb
theorem j_mod (ha : OE X a o1) (hb : OE X b o2) : VE X (.BinOp a .Mod b pos) (mBin gMod o1 o2) := j_binV op_mod g_mod gMod_own ha hb
theorem j_div (ha : OE X a o1) (hb : OE X b o2) : VE X (.BinOp a .FloorDiv b pos) (mBin gDiv o1 o2) := j_binV op_fdivW g_div gDiv_own ha hb
theorem j_pow (ha : OE X a o1) (hb : OE X b o2) : VE X (.BinOp a .Pow b pos) (mBin gPow o1 o2) := j_binV op_pow g_pow gPow_own ha hb
theorem j_neg (ha : OE X a o1) : VE X (.UnaryOp .USub a pos) (mUn gNeg o1) := j_down (PE.mono (pe_un un_neg ha) fun σ H Q h => read1 g_neg h) (mUn_own fun d z h => by unfold gNeg at h; split at h <;> cases h; rfl)

/-! ### == != -/
mutual
def D.py : D → Option PyData
  | .non => some .none
  | .bl b => some (.bool b)
  | .int i => some (.int i)
  | .str x => some (.str x)
  | .tup ds => (D.pys ds).map PyData.tuple
  | .lst _ ds => (D.pys ds).map PyData.list
  | .fro ds => (D.pys ds).map PyData.list
  | .dic _ _ _ => none
def D.pys : List D → Option (List PyData)
  | [] => some []
  | d :: ds => match d.py, D.pys ds with
    | some p, some ps => some (p :: ps)
    | _, _ => none
end
section
variable {K : PySem.W.Frag} {B F H : Hp}
mutual
theorem Ow.dp (fh : Same F H) : ∀ (d : D) (v : V) (f : List Addr) (p : PyData), Ow K B F H d v f → d.py = some p → Dp K H v p
  | .non, v, f, p, h, e => by cases e; obtain rfl := ow_non h; exact .non
  | .bl _, v, f, p, h, e => by cases e; obtain rfl := ow_bl h; exact .bl _
  | .int _, v, f, p, h, e => by cases e; obtain rfl := ow_int h; exact .int _
  | .str _, v, f, p, h, e => by cases e; obtain rfl := ow_str h; exact .str _
  | .tup ds, v, f, p, h, e => by
    obtain ⟨a, vs, rfl, s, r⟩ := ow_tup h
    unfold D.py at e
    obtain ⟨ps, e1, rfl⟩ := Option.map_eq_some_iff.mp e
    exact .tup (fh.sqT s) (Ows.dp fh ds vs [] ps (.of (B := B) (H := H) r) e1)
  | .lst o ds, v, f, p, h, e => by
    obtain ⟨a, vs, fs, rfl, s, r⟩ := ow_lst fh h
    unfold D.py at e
    obtain ⟨ps, e1, rfl⟩ := Option.map_eq_some_iff.mp e
    exact .lst (SqL.of s) (Ows.dp fh ds vs fs ps r e1)
  | .fro ds, v, f, p, h, e => by
    obtain ⟨a, vs, rfl, s, r⟩ := ow_fro h
    unfold D.py at e
    obtain ⟨ps, e1, rfl⟩ := Option.map_eq_some_iff.mp e
    exact .lst (fh.seq s) (Ows.dp fh ds vs [] ps (.of (B := B) (H := H) r) e1)
  | .dic _ _ _, v, f, p, h, e => by cases e
theorem Ows.dp (fh : Same F H) : ∀ (ds : List D) (vs : List V) (f : List Addr) (ps : List PyData), Ows K B F H ds vs f → D.pys ds = some ps → DpAll K H vs ps
  | [], vs, f, ps, h, e => by cases e; cases h; exact .nil
  | d :: ds, vs, f, ps, h, e => by
    cases h with
    | cons x y =>
      unfold D.pys at e
      cases e1 : d.py with
      | none => rw [e1] at e; cases e
      | some p =>
        cases e2 : D.pys ds with
        | none => rw [e1, e2] at e; cases e
        | some qs =>
          rw [e1, e2] at e
          cases e
          exact .cons (Ow.dp fh d _ _ p x e1) (Ows.dp fh ds _ _ qs y e2)
end
end
/-- == of data; texts alone may be of any kind -/
def cEq : D → D → Option Bool
  | .str x, .str y => some (decide (x = y))
  | .str _, .non => some false
  | .non, .str _ => some false
  | .str _, .int _ => some false
  | .int _, .str _ => some false
  | .str _, .bl _ => some false
  | .bl _, .str _ => some false
  | d, e => match d.py, e.py with
    | some p, some q => if SeqAt.shaped p = true ∧ SeqAt.shaped q = true then some (PyData.eqv p q) else none
    | _, _ => none
def rEqG (K : PySem.W.Frag) : R2 := fun x y H Q => rEq x y H Q ∨ rEqD K x y H Q
def rNeG (K : PySem.W.Frag) : R2 := fun x y H Q => rNe x y H Q ∨ rNeD K x y H Q
theorem op_eqG (hu : X.A.units + 64 < cLine) : OpR X (compareOp .Eq) (rEqG X.K) := op_eq.or (op_eqD hu)
theorem op_neG (hu : X.A.units + 64 < cLine) : OpR X (compareOp .NotEq) (rNeG X.K) := op_ne.or (op_neD hu)
theorem eq_core {B F H : Hp} {d e : D} {v w : V} {f f' : List Addr} {b : Bool} (bh : Same B H) (fh : Same F H) (h1 : Ow X.K B F H d v f) (h2 : Ow X.K B F H e w f') (hg : cEq d e = some b) :
    (scal v w = true ∧ decide (v = w) = b) ∨ ∃ p q, Dp X.K H v p ∧ Dp X.K H w q ∧ SeqAt.shaped p = true ∧ SeqAt.shaped q = true ∧ PyData.eqv p q = b := by
  unfold cEq at hg
  split at hg
  · cases hg
    obtain rfl := ow_str h1
    obtain rfl := ow_str h2
    exact .inl ⟨rfl, by simp⟩
  · cases hg; obtain rfl := ow_str h1; obtain rfl := ow_non h2; exact .inl ⟨rfl, by simp⟩
  · cases hg; obtain rfl := ow_non h1; obtain rfl := ow_str h2; exact .inl ⟨rfl, by simp⟩
  · cases hg; obtain rfl := ow_str h1; obtain rfl := ow_int h2; exact .inl ⟨rfl, by simp⟩
  · cases hg; obtain rfl := ow_int h1; obtain rfl := ow_str h2; exact .inl ⟨rfl, by simp⟩
  · cases hg; obtain rfl := ow_str h1; obtain rfl := ow_bl h2; exact .inl ⟨rfl, by simp⟩
  · cases hg; obtain rfl := ow_bl h1; obtain rfl := ow_str h2; exact .inl ⟨rfl, by simp⟩
  · split at hg
    · rename_i p q e1 e2
      split at hg
      · rename_i hs
        cases hg
        exact .inr ⟨p, q, Ow.dp fh d v f p h1 e1, Ow.dp fh e w f' q h2 e2, hs.1, hs.2, rfl⟩
      · cases hg
    · cases hg
theorem g_eq : BinOk X (rEqG X.K) (liftB cEq) := fun B F H d e v w f f' z Q bh fh h1 h2 hg n => by
  unfold liftB at hg
  split at hg
  · rename_i b hb
    cases hg
    rcases eq_core bh fh h1 h2 hb with ⟨s, q⟩ | ⟨p, q, a1, a2, a3, a4, a5⟩
    · exact .inl ⟨s, by rw [q]; exact new_imm n fh (.bl _)⟩
    · exact .inr ⟨p, q, a1, a2, a3, a4, by rw [a5]; exact new_imm n fh (.bl _)⟩
  · cases hg
def cNe : D → D → Option Bool := fun d e => match cEq d e with
  | some b => some (!b)
  | none => none
theorem g_ne : BinOk X (rNeG X.K) (liftB cNe) := fun B F H d e v w f f' z Q bh fh h1 h2 hg n => by
  unfold liftB at hg
  split at hg
  · rename_i b hb
    cases hg
    unfold cNe at hb
    split at hb
    · rename_i b' hb'
      cases hb
      rcases eq_core bh fh h1 h2 hb' with ⟨s, q⟩ | ⟨p, q, a1, a2, a3, a4, a5⟩
      · exact .inl ⟨s, by rw [q]; exact new_imm n fh (.bl _)⟩
      · exact .inr ⟨p, q, a1, a2, a3, a4, by rw [a5]; exact new_imm n fh (.bl _)⟩
    · cases hb
  · cases hg
theorem j_eq (hu : X.A.units + 64 < cLine) (ha : OE X a o1) (hb : OE X b o2) : VE X (.Compare a [.Eq] [b] pos) (mBin (liftB cEq) o1 o2) := j_cmp (op_eqG hu) g_eq (liftB_own _) ha hb (nomark _)
theorem j_ne (hu : X.A.units + 64 < cLine) (ha : OE X a o1) (hb : OE X b o2) : VE X (.Compare a [.NotEq] [b] pos) (mBin (liftB cNe) o1 o2) := j_cmp (op_neG hu) g_ne (liftB_own _) ha hb (nomark _)
theorem j_teq (hu : X.A.units + 64 < cLine) (ha : OE X a o1) (hb : OE X b o2) : BE X (.Compare a [.Eq] [b] pos) (tOf (mBin (liftB cEq) o1 o2)) := j_tcmp (op_eqG hu) g_eq ha hb (nomark _)
theorem j_tne (hu : X.A.units + 64 < cLine) (ha : OE X a o1) (hb : OE X b o2) : BE X (.Compare a [.NotEq] [b] pos) (tOf (mBin (liftB cNe) o1 o2)) := j_tcmp (op_neG hu) g_ne ha hb (nomark _)

/-! ### < <= > >= -/
def cI (p : Int → Int → Bool) : D → D → Option Bool
  | .int i, .int j => some (p i j)
  | _, _ => none
theorem g_cI {p : Int → Int → Bool} : BinOk X (rI0 fun i j => .bl (p i j)) (liftB (cI p)) := fun B F H d e v w f f' z Q bh fh h1 h2 hg n => by
  unfold liftB at hg
  split at hg
  · rename_i b hb
    cases hg
    unfold cI at hb
    split at hb
    · cases hb
      obtain rfl := ow_int h1
      obtain rfl := ow_int h2
      exact ⟨_, _, rfl, rfl, new_imm n fh (.bl _)⟩
    · cases hb
  · cases hg
abbrev cLt := cI fun i j => decide (i < j)
abbrev cLe := cI fun i j => decide (i ≤ j)
abbrev cGt := cI fun i j => decide (j < i)
abbrev cGe := cI fun i j => decide (j ≤ i)
theorem j_lt (ha : OE X a o1) (hb : OE X b o2) : VE X (.Compare a [.Lt] [b] pos) (mBin (liftB cLt) o1 o2) := j_cmp op_lt g_cI (liftB_own _) ha hb (nomark _)
theorem j_le (ha : OE X a o1) (hb : OE X b o2) : VE X (.Compare a [.LtE] [b] pos) (mBin (liftB cLe) o1 o2) := j_cmp op_le g_cI (liftB_own _) ha hb (nomark _)
theorem j_gt (ha : OE X a o1) (hb : OE X b o2) : VE X (.Compare a [.Gt] [b] pos) (mBin (liftB cGt) o1 o2) := j_cmp op_gt g_cI (liftB_own _) ha hb (nomark _)
theorem j_ge (ha : OE X a o1) (hb : OE X b o2) : VE X (.Compare a [.GtE] [b] pos) (mBin (liftB cGe) o1 o2) := j_cmp op_ge g_cI (liftB_own _) ha hb (nomark _)
theorem j_tlt (ha : OE X a o1) (hb : OE X b o2) : BE X (.Compare a [.Lt] [b] pos) (tOf (mBin (liftB cLt) o1 o2)) := j_tcmp op_lt g_cI ha hb (nomark _)
theorem j_tle (ha : OE X a o1) (hb : OE X b o2) : BE X (.Compare a [.LtE] [b] pos) (tOf (mBin (liftB cLe) o1 o2)) := j_tcmp op_le g_cI ha hb (nomark _)
theorem j_tgt (ha : OE X a o1) (hb : OE X b o2) : BE X (.Compare a [.Gt] [b] pos) (tOf (mBin (liftB cGt) o1 o2)) := j_tcmp op_gt g_cI ha hb (nomark _)
theorem j_tge (ha : OE X a o1) (hb : OE X b o2) : BE X (.Compare a [.GtE] [b] pos) (tOf (mBin (liftB cGe) o1 o2)) := j_tcmp op_ge g_cI ha hb (nomark _)

/-! ### is None -/
def isNon : D → Bool
  | .non => true
  | _ => false
def cIsN : D → D → Option Bool
  | d, .non => some (isNon d)
  | _, _ => none
theorem ow_non_iff {K : PySem.W.Frag} {B F H : Hp} {d : D} {v : V} {f : List Addr} (h : Ow K B F H d v f) : decide (v = .non) = isNon d := by
  cases h with
  | imm r => cases r <;> simp [isNon]
  | lst => simp [isNon]
  | dic => simp [isNon]
theorem g_isN : BinOk X (fun x y H Q => y = .non ∧ Q (.bl (decide (x = .non))) H) (liftB cIsN) := fun B F H d e v w f f' z Q bh fh h1 h2 hg n => by
  unfold liftB at hg
  split at hg
  · rename_i b hb
    cases hg
    unfold cIsN at hb
    split at hb
    · cases hb
      obtain rfl := ow_non h2
      refine ⟨rfl, ?_⟩
      rw [ow_non_iff h1]
      exact new_imm n fh (.bl _)
    · cases hb
  · cases hg
def cNoN : D → D → Option Bool := fun d e => match cIsN d e with
  | some b => some (!b)
  | none => none
theorem g_noN : BinOk X (fun x y H Q => y = .non ∧ Q (.bl (!decide (x = .non))) H) (liftB cNoN) := fun B F H d e v w f f' z Q bh fh h1 h2 hg n => by
  unfold liftB at hg
  split at hg
  · rename_i b hb
    cases hg
    unfold cNoN at hb
    split at hb
    · rename_i b' hb'
      cases hb
      unfold cIsN at hb'
      split at hb'
      · cases hb'
        obtain rfl := ow_non h2
        refine ⟨rfl, ?_⟩
        rw [ow_non_iff h1]
        exact new_imm n fh (.bl _)
      · cases hb'
    · cases hb
  · cases hg
theorem j_isN (ha : OE X a o1) (hb : OE X b o2) : VE X (.Compare a [.Is] [b] pos) (mBin (liftB cIsN) o1 o2) := j_cmp op_isN g_isN (liftB_own _) ha hb (nomark _)
theorem j_noN (ha : OE X a o1) (hb : OE X b o2) : VE X (.Compare a [.IsNot] [b] pos) (mBin (liftB cNoN) o1 o2) := j_cmp op_notN g_noN (liftB_own _) ha hb (nomark _)
theorem j_tisN (ha : OE X a o1) (hb : OE X b o2) : BE X (.Compare a [.Is] [b] pos) (tOf (mBin (liftB cIsN) o1 o2)) := j_tcmp op_isN g_isN ha hb (nomark _)
theorem j_tnoN (ha : OE X a o1) (hb : OE X b o2) : BE X (.Compare a [.IsNot] [b] pos) (tOf (mBin (liftB cNoN) o1 o2)) := j_tcmp op_notN g_noN ha hb (nomark _)

/-! ### a < b < c -/
def mChain (g g' : D → D → Option Bool) (o1 o2 o3 : OM) : EM := fun st => match o1 st with
  | some (h1, st1) => match o2 st1 with
    | some (h2, st2) => match h1.get st2, h2.get st2 with
      | some d, some e => match g d e with
        | some true => match o3 st2 with
          | some (h3, st3) => match h2.get st3, h3.get st3 with
            | some e', some k => match g' e' k with
              | some b => some (.bl b, st3)
              | none => none
            | _, _ => none
          | none => none
        | some false => some (.bl false, st2)
        | none => none
      | _, _ => none
    | none => none
  | none => none
theorem j_tchain {c : Expr} {o3 : OM} {op op' : CmpOp} {r r' : R2} {g g' : D → D → Option Bool} (ho : OpR X (compareOp op) r) (ho' : OpR X (compareOp op') r') (hr : BinOk X r (liftB g)) (hr' : BinOk X r' (liftB g')) (ha : OE X a o1) (hb : OE X b o2) (hc : OE X c o3)
    (hm : lastMarks [op, op'] [b, c] = false := by with_unfolding_all rfl) : BE X (.Compare a [op, op'] [b, c] pos) (tOf (mChain g g' o1 o2 o3)) := by
  refine PT.mono (pt_chain ho ho' ha hb hc hm) fun σ H Q ⟨B, F, st, fp, k0, st', s, em, k⟩ => ?_
  have em := tOf_some em
  unfold mChain at em
  split at em
  · rename_i h1 st1 q1
    split at em
    · rename_i h2 st2 q2
      split at em
      · rename_i d e q3 q4
        refine ⟨B, F, st, fp, h1, st1, s, q1, fun v H1 F1 fp1 g1 s1 r1 => ⟨B, F1, st1, fp1, h2, st2, s1, q2, fun w H2 F2 fp2 g2 s2 r2 => ?_⟩⟩
        obtain ⟨f1, w1⟩ := s2.look (r1.mono g2.ex) q3
        obtain ⟨f2, w2⟩ := s2.look r2 q4
        split at em
        · rename_i q5
          refine hr B F2 H2 d e v w f1 f2 (.bl true) _ s2.bh s2.fh w1 w2 (by unfold liftB; rw [q5]) fun v' H3 F3 fv a1 a2 a3 a4 a5 a6 a7 => ?_
          cases (a5.rp rfl).1
          have s3 := s2.grow a1 a2 a3 a4
          have g3 : Gr B F2 F3 := .of s2 a2 a3
          refine ⟨true, rfl, ?_⟩
          split at em
          · rename_i h3 st3 q6
            split at em
            · rename_i e' kk q7 q8
              split at em
              · rename_i bb q9
                cases em
                first
                  | rw [if_pos rfl]
                  | skip
                refine ⟨B, F3, st2, fp2, h3, st', s3, q6, fun u H4 F4 fp4 g4 s4 r4 => ?_⟩
                obtain ⟨f3, w3⟩ := s4.look ((r2.mono g3.ex).mono g4.ex) q7
                obtain ⟨f4, w4⟩ := s4.look r4 q8
                refine hr' B F4 H4 e' kk w u f3 f4 (.bl k0) _ s4.bh s4.fh w3 w4 (by unfold liftB; rw [q9]) fun v'' H5 F5 fv' b1 b2 b3 b4 b5 b6 b7 => ?_
                cases (b5.rp rfl).1
                exact ⟨k0, rfl, k H5 F5 fp4 ((((g1.trans g2).trans g3).trans g4).trans (.of s4 b2 b3)) (s4.grow b1 b2 b3 b4)⟩
              · cases em
            · cases em
          · cases em
        · rename_i q5
          cases em
          refine hr B F2 H2 d e v w f1 f2 (.bl false) _ s2.bh s2.fh w1 w2 (by unfold liftB; rw [q5]) fun v' H3 F3 fv a1 a2 a3 a4 a5 a6 a7 => ?_
          cases (a5.rp rfl).1
          refine ⟨false, rfl, ?_⟩
          first
            | rw [if_neg Bool.false_ne_true]
            | skip
          exact ⟨false, rfl, k H3 F3 fp2 ((g1.trans g2).trans (.of s2 a2 a3)) (s2.grow a1 a2 a3 a4)⟩
        · cases em
      · cases em
    · cases em
  · cases em
end
end MP

/-! MP3: subscripts, in, slices, argument lists, displays, built-ins. -/
namespace MP
open PySem L2

/-! ### something set aside while more is reckoned -/
def bg (B H : Hp) (fv : List Addr) : Hp := fun a => if a ∈ fv then H a else B a
theorem bg_in {B H : Hp} {fv : List Addr} {a : Addr} (h : a ∈ fv) : bg B H fv a = H a := if_pos h
theorem bg_out {B H : Hp} {fv : List Addr} {a : Addr} (h : a ∉ fv) : bg B H fv a = B a := if_neg h
section
variable {K : PySem.W.Frag} {B F F' H H' : Hp} {st st' : S} {σ : L2.St} {fp fp' : Nat → List Addr} {fv : List Addr}
theorem SR.park (s : SR K B F H st σ fp) (ap : ∀ i, ∀ a ∈ fp i, a ∉ fv) : SR K (bg B H fv) F H st σ fp where
  len := s.len
  bh := fun a o e => by
    by_cases m : a ∈ fv
    · rw [bg_in m] at e; exact e
    · rw [bg_out m] at e; exact s.bh a o e
  fh := s.fh
  sl := fun i d e => by
    obtain ⟨v, e1, o⟩ := s.sl i d e
    exact ⟨v, e1, o.frame (.refl _) d v _ (fun _ _ => rfl) (fun a ha => (s.hold ha).2.1) fun a ha => by rw [bg_out (ap i a ha)]; exact (s.hold ha).2.2⟩
  em := s.em
  nd := s.nd
  dj := s.dj
theorem SR.unpark (s : SR K (bg B H fv) F' H' st' σ fp') (g : Gr (bg B H fv) F F') (m : ∀ a ∈ fv, H a ≠ none ∧ F a = none ∧ B a = none) (bh : Same B H) :
    SR K B F' H' st' σ fp' ∧ Gr B F F' ∧ (∀ a ∈ fv, H' a = H a ∧ F' a = none) ∧ ∀ i, ∀ a ∈ fp' i, a ∉ fv := by
  have ap : ∀ i, ∀ a ∈ fp' i, a ∉ fv := fun i a ha z => by
    have q := (s.hold ha).2.2
    rw [bg_in z] at q
    exact (m a z).1 q
  refine ⟨⟨s.len, fun a o e => ?_, s.fh, fun i d e => ?_, s.em, s.nd, s.dj⟩, ⟨g.ex, fun a n => g.at_ a ?_⟩, fun a ha => ?_, ap⟩
  · refine s.bh a o ?_
    rw [bg_out fun z => by rw [(m a z).2.2] at e; cases e]
    exact e
  · obtain ⟨v, e1, o⟩ := s.sl i d e
    refine ⟨v, e1, o.frame (.refl _) d v _ (fun _ _ => rfl) (fun a ha => (s.hold ha).2.1) fun a ha => ?_⟩
    have q := (s.hold ha).2.2
    rw [bg_out (ap i a ha)] at q
    exact q
  · rw [bg_out fun z => n (m a z).2.2]
    exact n
  · refine ⟨?_, ?_⟩
    · cases q : H a with
      | none => exact absurd q (m a ha).1
      | some o => exact s.bh a o (by rw [bg_in ha]; exact q)
    · rw [g.at_ a (by rw [bg_in ha]; exact (m a ha).1)]
      exact (m a ha).2.1
theorem Ow.unbg {d : D} {v : V} {f : List Addr} (m : ∀ a ∈ fv, H a ≠ none) (o : Ow K (bg B H fv) F' H' d v f) : Ow K B F' H' d v f ∧ ∀ a ∈ f, a ∉ fv := by
  have n := Ow.mem d v f o
  have ap : ∀ a ∈ f, a ∉ fv := fun a ha z => by
    have q := (n a ha).2.2
    rw [bg_in z] at q
    exact m a z q
  exact ⟨o.frame (.refl _) d v f (fun _ _ => rfl) (fun a ha => (n a ha).2.1) fun a ha => by rw [← bg_out (B := B) (H := H) (ap a ha)]; exact (n a ha).2.2, ap⟩
end

/-! ### argument lists -/
inductive Ar where
  | rf (i : Nat) | dt (d : D)
abbrev AM := S → Option (List Ar × S)
/-- the arguments' values; the footprint of those that are data -/
inductive ArV (K : PySem.W.Frag) (B F H : Hp) (σ : L2.St) : List Ar → List V → List Addr → Prop
  | nil : ArV K B F H σ [] [] []
  | rf {i : Nat} {v : V} {ls : List Ar} {vs : List V} {ft : List Addr} : σ[i]? = some (some v) → ArV K B F H σ ls vs ft → ArV K B F H σ (.rf i :: ls) (v :: vs) ft
  | dt {d : D} {v : V} {f : List Addr} {ls : List Ar} {vs : List V} {ft : List Addr} : Ow K B F H d v f → ArV K B F H σ ls vs ft → ArV K B F H σ (.dt d :: ls) (v :: vs) (f ++ ft)
def tA (K : PySem.W.Frag) (m : AM) : TA := fun σ H Q => ∃ B F st fp ls st', SR K B F H st σ fp ∧ m st = some (ls, st') ∧ ∀ vs H' F' fp' ft, Gr B F F' → SR K B F' H' st' σ fp' → ArV K B F' H' σ ls vs ft → ft.Nodup → (∀ i, ∀ a ∈ fp' i, a ∉ ft) → Q vs H'
abbrev AE (X : Cx) (es : List Expr) (m : AM) : Prop := PA X es (tA X.K m)
theorem PA.mono {X : Cx} {e : List Expr} {t t' : TA} (h : PA X e t) (k : ∀ σ H Q, t' σ H Q → t σ H Q) : PA X e t' := ⟨fun pos pins s σ H Q I q => h.run pos pins s σ H Q I (k σ H Q q)⟩
def aNil : AM := fun st => some ([], st)
def aRef (i : Nat) (r : AM) : AM := fun st => match gt st i with
  | some _ => match r st with
    | some (ls, st1) => some (.rf i :: ls, st1)
    | none => none
  | none => none
def aDat (m : EM) (r : AM) : AM := fun st => match m st with
  | some (d, st1) => match r st1 with
    | some (ls, st2) => some (.dt d :: ls, st2)
    | none => none
  | none => none
section
variable {K : PySem.W.Frag} {B F F' H H' : Hp} {σ : L2.St} {fv : List Addr}
theorem ArV.unbg (m : ∀ a ∈ fv, H a ≠ none) : ∀ {ls : List Ar} {vs : List V} {ft : List Addr}, ArV K (bg B H fv) F' H' σ ls vs ft → ArV K B F' H' σ ls vs ft ∧ ∀ a ∈ ft, a ∉ fv
  | _, _, _, .nil => ⟨.nil, fun _ z => by cases z⟩
  | _, _, _, .rf e r => ⟨.rf e (ArV.unbg m r).1, (ArV.unbg m r).2⟩
  | _, _, _, .dt o r => ⟨.dt (o.unbg m).1 (ArV.unbg m r).1, fun a ha => (List.mem_append.mp ha).elim ((o.unbg m).2 a) ((ArV.unbg m r).2 a)⟩
end
section
variable {X : Cx} {e a b : Expr} {es : List Expr} {m : EM} {r : AM} {o o1 o2 : OM} {pos : Pos}
theorem j_anil : AE X [] aNil := PA.mono pa_nil fun σ H Q ⟨B, F, st, fp, ls, st', s, em, k⟩ => by
  cases em
  exact k [] H F fp [] .refl s .nil List.nodup_nil fun _ _ _ z => by cases z
theorem j_aref {i : Nat} (h : PE X e (tVar i)) (hr : AE X es r) (hs : starEach (e :: es) X.env = (false, eval e X.env) :: starEach es X.env := by rfl) : AE X (e :: es) (aRef i r) := PA.mono (pa_cons h hr hs) fun σ H Q ⟨B, F, st, fp, ls, st', s, em, k⟩ => by
  unfold aRef at em
  cases q : gt st i with
  | none => rw [q] at em; cases em
  | some d =>
    rw [q] at em
    simp only at em
    cases p : r st with
    | none => rw [p] at em; cases em
    | some w =>
      obtain ⟨ls1, st1⟩ := w
      rw [p] at em
      cases em
      obtain ⟨v, e1, o⟩ := s.slot q
      exact ⟨v, e1, B, F, st, fp, ls1, _, s, p, fun vs H' F' fp' ft g s' av nd ap => k (v :: vs) H' F' fp' ft g s' (.rf e1 av) nd ap⟩
theorem j_adat (h : ME X e m) (hr : AE X es r) (hs : starEach (e :: es) X.env = (false, eval e X.env) :: starEach es X.env := by rfl) : AE X (e :: es) (aDat m r) := PA.mono (pa_cons h hr hs) fun σ H Q ⟨B, F, st, fp, ls, st', s, em, k⟩ => by
  unfold aDat at em
  cases q : m st with
  | none => rw [q] at em; cases em
  | some w =>
    obtain ⟨d, st1⟩ := w
    rw [q] at em
    simp only at em
    cases p : r st1 with
    | none => rw [p] at em; cases em
    | some w2 =>
      obtain ⟨ls1, st2⟩ := w2
      rw [p] at em
      cases em
      refine ⟨B, F, st, fp, d, st1, s, q, fun v H1 F1 fp1 fv g1 s1 rv => ?_⟩
      have mm := Ow.mem d v fv rv.ow
      refine ⟨bg B H1 fv, F1, st1, fp1, ls1, _, s1.park rv.ap, p, fun vs H' F' fp' ft g s' av nd ap => ?_⟩
      obtain ⟨s2, g2, hh, ap2⟩ := s'.unpark g mm s1.bh
      obtain ⟨av2, ap3⟩ := av.unbg fun a ha => (mm a ha).1
      refine k (v :: vs) H' F' fp' (fv ++ ft) (g1.trans g2) s2 (.dt (rv.ow.frame g2.ex d v fv (fun a ha => (hh a ha).1) (fun a ha => (hh a ha).2) fun a ha => (mm a ha).2.2) av2) ?_ ?_
      · rw [List.nodup_append]
        exact ⟨rv.nd, nd, fun a ha b hb z => ap3 b hb (z ▸ ha)⟩
      · intro i a ha z
        rcases List.mem_append.mp z with z | z
        · exact ap2 i a ha z
        · exact ap i a ha z

/-! ### displays -/
def datsOf : List Ar → Option (List D)
  | [] => some []
  | .dt d :: ls => match datsOf ls with
    | some ds => some (d :: ds)
    | none => none
  | .rf _ :: _ => none
theorem ArV.ows {K : PySem.W.Frag} {B F H : Hp} {σ : L2.St} : ∀ {ls : List Ar} {vs : List V} {ft : List Addr} {ds : List D}, ArV K B F H σ ls vs ft → datsOf ls = some ds → Ows K B F H ds vs ft
  | _, _, _, _, .nil, e => by cases e; exact .nil
  | _, _, _, _, .rf _ _, e => by cases e
  | _, _, _, ds, .dt o r, e => by
    unfold datsOf at e
    split at e
    · rename_i ds' q
      cases e
      exact .cons o (ArV.ows r q)
    · cases e
def mLst (r : AM) : EM := fun st => match r st with
  | some (ls, st1) => match datsOf ls with
    | some ds => if ds.length ≤ 16777216 then some (.lst true ds, st1) else none
    | none => none
  | none => none
def mTup (r : AM) : EM := fun st => match r st with
  | some (ls, st1) => match datsOf ls with
    | some ds => if ds.length ≤ 16777216 then some (.tup (D.fzs ds), st1) else none
    | none => none
  | none => none
theorem Ows.freeze' {K : PySem.W.Frag} {B F H : Hp} {st : S} {σ : L2.St} {fp : Nat → List Addr} {ds : List D} {vs : List V} {ft : List Addr} (s : SR K B F H st σ fp) (o : Ows K B F H ds vs ft) (ap : ∀ i, ∀ a ∈ fp i, a ∉ ft) :
    ∃ F', Gr B F F' ∧ SR K B F' H st σ fp ∧ Rps K F' (D.fzs ds) vs := by
  have m := Ows.mem ds vs ft o
  refine ⟨ovl F H ft, ⟨ovl_same fun a ha => (m a ha).2.1, fun a n => ovl_out fun z => n (m a z).2.2⟩, ?_, Ows.freeze (ovl_same fun a ha => (m a ha).2.1) ds vs ft o fun a ha => ovl_in ha⟩
  refine ⟨s.len, s.bh, ovl_sub s.fh, fun i d' e => ?_, s.em, s.nd, s.dj⟩
  obtain ⟨v', e1, o⟩ := s.sl i d' e
  exact ⟨v', e1, o.frame (ovl_same fun a ha => (m a ha).2.1) d' v' _ (fun a _ => rfl) (fun a ha => by rw [ovl_out (ap i a ha)]; exact (s.hold ha).2.1) fun a ha => (s.hold ha).2.2⟩
theorem j_tup {x1} (h : AE X es r) : VE X (.Tuple es x1 pos) (mTup r) := PE.mono (pe_tup h) fun σ H Q ⟨B, F, st, fp, z, st', s, em, k⟩ => by
  unfold mTup at em
  cases q : r st with
  | none => rw [q] at em; cases em
  | some w =>
    obtain ⟨ls, st1⟩ := w
    rw [q] at em
    simp only at em
    cases p : datsOf ls with
    | none => rw [p] at em; cases em
    | some ds =>
      rw [p] at em
      simp only at em
      split at em
      · rename_i hz
        cases em
        refine ⟨B, F, st, fp, ls, _, s, q, fun vs H1 F1 fp1 ft g1 s1 av nd ap => ?_⟩
        have ow := av.ows p
        refine ⟨szl (by rw [← ow.length]; exact hz), fun p hp => ?_⟩
        obtain ⟨F2, g2, s2, rs⟩ := ow.freeze' s1 ap
        have f2 := sub_none s2.fh hp
        have sm : Same F2 (upd F2 p (.tup vs)) := same_new f2
        exact k _ _ (upd F2 p (.tup vs)) fp1 (g1.trans (g2.trans (.of s2 sm fun a ha => upd_ne fun z => ha (by rw [z]; exact hp))))
          (s2.grow (same_new hp) sm (fun a ha => upd_ne fun z => ha (by rw [z]; exact hp)) (same_upd2 s2.fh)) (.tup (SqT.of upd_same) (Rps.mono sm _ _ rs))
      · cases em
theorem j_lst (h : AE X es r) : ME X (.List es pos) (mLst r) := PE.mono (pe_lst h) fun σ H Q ⟨B, F, st, fp, z, st', s, em, k⟩ => by
  unfold mLst at em
  cases q : r st with
  | none => rw [q] at em; cases em
  | some w =>
    obtain ⟨ls, st1⟩ := w
    rw [q] at em
    simp only at em
    cases p : datsOf ls with
    | none => rw [p] at em; cases em
    | some ds =>
      rw [p] at em
      simp only at em
      split at em
      · rename_i hz
        cases em
        refine ⟨B, F, st, fp, ls, _, s, q, fun vs H1 F1 fp1 ft g1 s1 av nd ap => ?_⟩
        have ow := av.ows p
        refine ⟨szl (by rw [← ow.length]; exact hz), fun p hp => ?_⟩
        have mm := Ows.mem ds vs ft ow
        have nin : p ∉ ft := fun z => (mm p z).1 hp
        have sm := same_new (o := .lst vs) hp
        refine k _ _ F1 fp1 (p :: ft) g1 (s1.grow sm (.refl _) (fun _ _ => rfl) (s1.fh.trans sm))
          ⟨.lst upd_same (sub_none s1.fh hp) (sub_none s1.bh hp) (ow.frame (.refl _) ds vs ft (fun a ha => upd_ne fun z => nin (z ▸ ha)) (fun a ha => (mm a ha).2.1) fun a ha => (mm a ha).2.2), ?_, fun i a ha z => ?_⟩
        · rw [List.nodup_cons]
          exact ⟨nin, nd⟩
        · rcases List.mem_cons.mp z with e | z
          · exact (s1.hold ha).1 (by rw [e]; exact hp)
          · exact ap i a ha z
      · cases em

/-! ### subscripts -/
def lookD : List Key → List D → Key → Option D
  | k :: ks, d :: ds, x => if k = x then some d else lookD ks ds x
  | _, _, _ => none
def keyOf : D → Option Key
  | .int i => some (.inl i)
  | .str x => some (.inr x)
  | _ => none
theorem lookD_val {K : PySem.W.Frag} {B F H : Hp} {k : Key} : ∀ {kvs : List (Key × V)} {ds : List D} {fs : List Addr}, Ows K B F H ds (kvs.map (·.2)) fs →
    (lookD (kvs.map (·.1)) ds k = none ∧ valV kvs k = none) ∨ ∃ d v f, lookD (kvs.map (·.1)) ds k = some d ∧ valV kvs k = some v ∧ Ow K B F H d v f
  | [], _, _, .nil => .inl ⟨rfl, rfl⟩
  | (j, v) :: r, _, _, .cons (d := d) (ds := dr) o t => by
    by_cases h : j = k
    · refine .inr ⟨d, v, _, ?_, valV_pos h, o⟩
      show (if j = k then some d else _) = some d
      rw [if_pos h]
    · have e1 : lookD (((j, v) :: r).map (·.1)) (d :: dr) k = lookD (r.map (·.1)) dr k := by
        show (if j = k then some d else lookD (r.map (·.1)) dr k) = _
        rw [if_neg h]
      rw [e1, valV_neg (p := (j, v)) h]
      exact lookD_val t
theorem keyOf_v {K : PySem.W.Frag} {B F H : Hp} {d : D} {v : V} {f : List Addr} {k : Key} (h : Ow K B F H d v f) (e : keyOf d = some k) : v = kV k := by
  cases d with
  | int i => cases e; exact ow_int h
  | str x => cases e; exact ow_str h
  | _ => cases e
def free (o : Option D) : Option D := match o with
  | some d => if d.own = true then none else some d
  | none => none
theorem free_some {o : Option D} {d : D} (h : free o = some d) : o = some d ∧ d.own = false := by
  unfold free at h
  split at h
  · rename_i d'
    split at h
    · cases h
    · rename_i n
      cases h
      exact ⟨rfl, by simpa using n⟩
  · cases h
def gIx : D → D → Option D
  | .lst _ ds, .int i => free (atI ds i)
  | .tup ds, .int i => free (atI ds i)
  | .fro ds, .int i => free (atI ds i)
  | .str x, .int i => if x.length ≤ 16777216 then (match atI x.cps.toList i with | some c => some (.str ⟨#[c]⟩) | none => none) else none
  | .dic _ ks ds, e => match keyOf e with
    | some k => free (lookD ks ds k)
    | none => none
  | _, _ => none
theorem Ows.at {K : PySem.W.Frag} {B F H : Hp} : ∀ {ds : List D} {vs : List V} {fs : List Addr} {j : Nat} {d : D}, Ows K B F H ds vs fs → ds[j]? = some d → ∃ v f, vs[j]? = some v ∧ Ow K B F H d v f
  | _, _, _, _, _, .nil, e => by simp at e
  | _, _, _, 0, _, .cons o t, e => by simp at e; subst e; exact ⟨_, _, rfl, o⟩
  | _, _, _, j + 1, d, .cons o t, e => by
    obtain ⟨v, f, h1, h2⟩ := Ows.at (j := j) t (by simpa using e)
    exact ⟨v, f, by simpa using h1, h2⟩
theorem at_ows {K : PySem.W.Frag} {B F H : Hp} {ds : List D} {vs : List V} {fs : List Addr} {i : Int} {d : D} (o : Ows K B F H ds vs fs) (e : atI ds i = some d) : ∃ v f, atI vs i = some v ∧ Ow K B F H d v f := by
  unfold atI at e ⊢
  rw [← o.length]
  cases q : ixN ds.length i with
  | none => rw [q] at e; cases e
  | some j =>
    rw [q] at e
    exact o.at e
/-- d[y], by values -/
def rIxD : R2 := fun x y H Q => ∃ a v, x = .ref a ∧ DGet H a y (some v) ∧ Q v H
theorem ix_dict (hu : X.A.units + 1 < cLine) : IxR X rIxD := by
  intro value slice pins s σ H x y v u Q I rx ry h hs
  obtain ⟨c, z, rfl, g, q⟩ := h
  obtain rfl : v = Value.ref c := rx
  have hT := dict_typeIs I g
  unfold PyProof.Rows.subscriptTail
  refine wpAny_bind ?_
  rw [getitemInPython_of_ne hT.not_modules]
  refine wpAny_bind (wpAny_specialOf hT PySem.F.slot_dict_getitem.lookup ?_)
  have fin : wpAny (model X.prog X.w) X.A (subscripted slice false (.ref c) u) (fun r s₃ => wpAny (model X.prog X.w) X.A (letTemporaryGo value (.ref c) r >>= fun _ => pure r) (EP X pins σ Q) X.xe s₃) X.xe s := by
    rw [hs]
    exact wpAny_operating (wpAny_mono (d_getItem (Q := fun r s3 => EP X pins σ Q r s3) hu I g ry fun w' s3 I3 rw' => ⟨z, H, I3, rw', q⟩) (fun r s₃ h₃ => wpAny_bind (wpAny_letTemporaryGo (wpAny_pure h₃))) fun _ _ x => x)
  first
    | exact wpAny_pure (wpAny_bind fin)
    | exact wpAny_bind (wpAny_pure (wpAny_bind fin))
    | exact wpAny_bind fin
def rIxG (K : PySem.W.Frag) : R2 := fun x y H Q => rIx K x y H Q ∨ rIxD x y H Q
theorem ix_all (hu : X.A.units + 1 < cLine) : IxR X (rIxG X.K) := ix_seq.or (ix_dict hu)
theorem g_ix : BinOk X (rIxG X.K) gIx := fun B F H d e v w f f' z Q bh fh h1 h2 hg n => by
  unfold gIx at hg
  split at hg
  · obtain ⟨ha, hn⟩ := free_some hg
    obtain ⟨a, vs, fs, rfl, e1, o⟩ := ow_lst fh h1
    obtain rfl := ow_int h2
    obtain ⟨u, fu, e2, ou⟩ := at_ows o ha
    exact .inl (.inl ⟨a, vs, _, u, rfl, rfl, SqL.of e1, e2, new_imm n fh (ou.rp hn).1⟩)
  · obtain ⟨ha, hn⟩ := free_some hg
    obtain ⟨a, vs, rfl, e1, o⟩ := ow_tup h1
    obtain rfl := ow_int h2
    obtain ⟨u, fu, e2, ou⟩ := at_ows (Ows.of (B := B) (H := H) o) ha
    exact .inl (.inr (.inl ⟨a, vs, _, u, rfl, rfl, fh.sqT e1, e2, new_imm n fh (ou.rp hn).1⟩))
  · obtain ⟨ha, hn⟩ := free_some hg
    obtain ⟨a, vs, rfl, e1, o⟩ := ow_fro h1
    obtain rfl := ow_int h2
    obtain ⟨u, fu, e2, ou⟩ := at_ows (Ows.of (B := B) (H := H) o) ha
    exact .inl (.inl ⟨a, vs, _, u, rfl, rfl, fh.seq e1, e2, new_imm n fh (ou.rp hn).1⟩)
  · split at hg
    · rename_i hz
      split at hg
      · rename_i c hc
        cases hg
        obtain rfl := ow_str h1
        obtain rfl := ow_int h2
        exact .inl (.inr (.inr ⟨_, _, c, rfl, rfl, szl hz, hc, new_imm n fh (.str _)⟩))
      · cases hg
    · cases hg
  · split at hg
    · rename_i k hk
      obtain ⟨ha, hn⟩ := free_some hg
      obtain ⟨a, kvs, fs, rfl, e1, e3, o⟩ := ow_dic fh h1
      subst e3
      rcases lookD_val (k := k) o with ⟨q, _⟩ | ⟨d', u, fu, q, e2, ou⟩
      · rw [q] at ha; cases ha
      · rw [q] at ha
        cases ha
        refine .inr ⟨a, u, rfl, ?_, new_imm n fh (ou.rp hn).1⟩
        rw [keyOf_v h2 hk, ← e2]
        exact DGet.k e1
    · cases hg
  · cases hg
theorem gIx_own : ∀ d e z, gIx d e = some z → z.own = false := fun d e z h => by
  unfold gIx at h
  split at h
  · exact (free_some h).2
  · exact (free_some h).2
  · exact (free_some h).2
  · split at h
    · split at h
      · cases h; rfl
      · cases h
    · cases h
  · split at h
    · exact (free_some h).2
    · cases h
  · cases h
theorem j_ix (hu : X.A.units + 1 < cLine) (ha : OE X a o1) (hb : OE X b o2) (hs : PlainIx b := by exact fun _ _ => rfl) : VE X (.Subscript a b pos) (mBin gIx o1 o2) := j_down (PE.mono (pe_ix (ix_all hu) ha hb hs) fun σ H Q h => read2 g_ix h) (mBin_own gIx_own)

/-! ### in -/
def flatD : D → Bool
  | .non => true
  | .bl _ => true
  | .int _ => true
  | .str _ => true
  | _ => false
def eqF : D → D → Bool
  | .non, .non => true
  | .bl a, .bl b => a == b
  | .bl a, .int b => (if a then 1 else 0) == b
  | .int a, .bl b => a == (if b then 1 else 0)
  | .int a, .int b => a == b
  | .str a, .str b => a == b
  | _, _ => false
theorem flatD_v {K : PySem.W.Frag} {F : Hp} {d : D} {v : V} (h : Rp K F d v) (f : flatD d = true) : flatV v = true := by cases h <;> first | rfl | cases f
theorem flatDs_v {K : PySem.W.Frag} {F : Hp} : ∀ {ds : List D} {vs : List V}, Rps K F ds vs → ds.all flatD = true → vs.all flatV = true
  | _, _, .nil, _ => rfl
  | _, _, .cons a b, h => by
    rw [List.all_cons, Bool.and_eq_true] at h ⊢
    exact ⟨flatD_v a h.1, flatDs_v b h.2⟩
theorem eqF_v {K : PySem.W.Frag} {F : Hp} {d e : D} {v w : V} (h1 : Rp K F d v) (h2 : Rp K F e w) (f1 : flatD d = true) (f2 : flatD e = true) : eqV v w = eqF d e := by
  cases h1 with
  | non => cases h2 <;> first | rfl | cases f2
  | bl b => cases h2 <;> first | rfl | cases f2
  | int i => cases h2 <;> first | rfl | cases f2
  | str x => cases h2 <;> first | rfl | cases f2
  | tup _ _ => cases f1
  | lst _ _ => cases f1
  | fro _ _ => cases f1
  | dic _ _ _ => cases f1
theorem any_v {K : PySem.W.Frag} {F : Hp} {x : D} {w : V} (h : Rp K F x w) (f : flatD x = true) : ∀ {ds : List D} {vs : List V}, Rps K F ds vs → ds.all flatD = true → inV w vs = ds.any fun y => eqF y x
  | _, _, .nil, _ => rfl
  | _, _, .cons (d := d) (v := v) (ds := ds) (vs := vs) a b, hh => by
    rw [List.all_cons, Bool.and_eq_true] at hh
    have e1 : inV w (v :: vs) = (eqV v w || inV w vs) := rfl
    rw [e1, any_v h f b hh.2, eqF_v a h hh.1 f, List.any_cons]
theorem flat_plain : ∀ {ds : List D}, ds.all flatD = true → plain ds = true
  | [], _ => rfl
  | d :: ds, h => by
    unfold plain
    rw [List.all_cons, Bool.and_eq_true] at h
    rw [List.all_cons]
    have e := flat_plain h.2
    unfold plain at e
    rw [e]
    cases d <;> first | rfl | cases h.1
/-- x in xs -/
def cIn : D → D → Option Bool := fun x c => match c with
  | .dic _ ks ds => match keyOf x with
    | some k => some (lookD ks ds k).isSome
    | none => none
  | c => match itemsOf c with
    | some ds => if flatD x = true ∧ ds.all flatD = true then some (ds.any fun y => eqF y x) else none
    | none => none
def rInG (K : PySem.W.Frag) (neg : Bool) : R2 := fun x y H Q => rIn K neg x y H Q ∨ ∃ a o, y = .ref a ∧ DGet H a x o ∧ Q (.bl (if neg then !o.isSome else o.isSome)) H
theorem op_inG (hu : X.A.units + 1 < cLine) : OpR X (compareOp .In) (rInG X.K false) := op_in_seq.or fun pins s σ H x y v u Q I rx ry h => by
  obtain ⟨a, o, rfl, g, q⟩ := h
  obtain rfl : u = Value.ref a := ry
  exact d_in hu I g rx fun s3 I3 => ⟨.bl o.isSome, H, I3, rfl, q⟩
theorem op_noG (hu : X.A.units + 1 < cLine) : OpR X (compareOp .NotIn) (rInG X.K true) := op_notIn_seq.or fun pins s σ H x y v u Q I rx ry h => by
  obtain ⟨a, o, rfl, g, q⟩ := h
  obtain rfl : u = Value.ref a := ry
  exact d_notIn hu I g rx fun s3 I3 => ⟨.bl (!o.isSome), H, I3, rfl, q⟩
theorem in_core {B F H : Hp} {d e : D} {v w : V} {f f' : List Addr} {b : Bool} (bh : Same B H) (fh : Same F H) (h1 : Ow X.K B F H d v f) (h2 : Ow X.K B F H e w f') (hg : cIn d e = some b) :
    (∃ p xs, w = .ref p ∧ (SqL X.K H p xs ∨ SqT X.K H p xs) ∧ flatV v = true ∧ xs.all flatV = true ∧ inV v xs = b) ∨ ∃ a o, w = .ref a ∧ DGet H a v o ∧ o.isSome = b := by
  unfold cIn at hg
  split at hg
  · split at hg
    · rename_i k hk
      cases hg
      obtain ⟨a, kvs, fs, rfl, e1, e3, o⟩ := ow_dic fh h2
      subst e3
      refine .inr ⟨a, valV kvs k, rfl, ?_, ?_⟩
      · rw [keyOf_v h1 hk]
        exact DGet.k e1
      · rcases lookD_val (k := k) o with ⟨q, q'⟩ | ⟨d', u, fu, q, e2, ou⟩
        · rw [q, q']; rfl
        · rw [q, e2]; rfl
    · cases hg
  · split at hg
    · rename_i ds hi
      split at hg
      · rename_i hf
        cases hg
        obtain ⟨a, vs, fs, rfl, e1, o⟩ := ow_items fh h2 hi
        obtain ⟨rs, _⟩ := o.rps (flat_plain hf.2)
        have hx : d.own = false := by cases d <;> first | rfl | cases hf.1
        have rx := (h1.rp hx).1
        exact .inl ⟨a, vs, rfl, e1, flatD_v rx hf.1, flatDs_v rs hf.2, any_v rx hf.1 rs hf.2⟩
      · cases hg
    · cases hg
theorem g_in : BinOk X (rInG X.K false) (liftB cIn) := fun B F H d e v w f f' z Q bh fh h1 h2 hg n => by
  unfold liftB at hg
  split at hg
  · rename_i b hb
    cases hg
    rcases in_core bh fh h1 h2 hb with ⟨p, xs, a1, a2, a3, a4, a5⟩ | ⟨a, o, a1, a2, a3⟩
    · exact .inl ⟨p, xs, a1, a2, a3, a4, by rw [if_neg Bool.false_ne_true, a5]; exact new_imm n fh (.bl _)⟩
    · exact .inr ⟨a, o, a1, a2, by rw [if_neg Bool.false_ne_true, a3]; exact new_imm n fh (.bl _)⟩
  · cases hg
def cNi : D → D → Option Bool := fun d e => match cIn d e with
  | some b => some (!b)
  | none => none
theorem g_ni : BinOk X (rInG X.K true) (liftB cNi) := fun B F H d e v w f f' z Q bh fh h1 h2 hg n => by
  unfold liftB at hg
  split at hg
  · rename_i b hb
    cases hg
    unfold cNi at hb
    split at hb
    · rename_i b' hb'
      cases hb
      rcases in_core bh fh h1 h2 hb' with ⟨p, xs, a1, a2, a3, a4, a5⟩ | ⟨a, o, a1, a2, a3⟩
      · exact .inl ⟨p, xs, a1, a2, a3, a4, by rw [if_pos rfl, a5]; exact new_imm n fh (.bl _)⟩
      · exact .inr ⟨a, o, a1, a2, by rw [if_pos rfl, a3]; exact new_imm n fh (.bl _)⟩
    · cases hb
  · cases hg
theorem j_in (hu : X.A.units + 1 < cLine) (ha : OE X a o1) (hb : OE X b o2) (hm : behindInMarks .In b = false := by rfl) : VE X (.Compare a [.In] [b] pos) (mBin (liftB cIn) o1 o2) := j_cmp (op_inG hu) g_in (liftB_own _) ha hb hm
theorem j_ni (hu : X.A.units + 1 < cLine) (ha : OE X a o1) (hb : OE X b o2) (hm : behindInMarks .NotIn b = false := by rfl) : VE X (.Compare a [.NotIn] [b] pos) (mBin (liftB cNi) o1 o2) := j_cmp (op_noG hu) g_ni (liftB_own _) ha hb hm
theorem j_tin (hu : X.A.units + 1 < cLine) (ha : OE X a o1) (hb : OE X b o2) (hm : behindInMarks .In b = false := by rfl) : BE X (.Compare a [.In] [b] pos) (tOf (mBin (liftB cIn) o1 o2)) := j_tcmp (op_inG hu) g_in ha hb hm
theorem j_tni (hu : X.A.units + 1 < cLine) (ha : OE X a o1) (hb : OE X b o2) (hm : behindInMarks .NotIn b = false := by rfl) : BE X (.Compare a [.NotIn] [b] pos) (tOf (mBin (liftB cNi) o1 o2)) := j_tcmp (op_noG hu) g_ni ha hb hm

/-! ### slices -/
abbrev PM := S → Option (Option Int × S)
def tP (K : PySem.W.Frag) (m : PM) : TO := fun σ H Q => ∃ B F st fp i st', SR K B F H st σ fp ∧ m st = some (i, st') ∧ ∀ H' F' fp', Gr B F F' → SR K B F' H' st' σ fp' → Q i H'
abbrev PJ (X : Cx) (e : Option Expr) (m : PM) : Prop := PO X e (tP X.K m)
theorem PO.mono {X : Cx} {e : Option Expr} {t t' : TO} (h : PO X e t) (k : ∀ σ H Q, t' σ H Q → t σ H Q) : PO X e t' := ⟨fun pins s σ H Q I q => h.run pins s σ H Q I (k σ H Q q)⟩
def pNo : PM := fun st => some (none, st)
def pSo (m : EM) : PM := fun st => match m st with
  | some (.int i, st') => some (some i, st')
  | _ => none
theorem j_pno : PJ X none pNo := PO.mono po_none fun σ H Q ⟨B, F, st, fp, i, st', s, em, k⟩ => by
  cases em
  exact k H F fp .refl s
theorem j_pso (h : VE X e m) : PJ X (some e) (pSo m) := PO.mono (po_some h) fun σ H Q ⟨B, F, st, fp, i, st', s, em, k⟩ => by
  unfold pSo at em
  split at em
  · rename_i j st1 q
    cases em
    refine ⟨B, F, st, fp, _, _, s, q, fun v H' F' fp' g s' r => ?_⟩
    cases r
    exact ⟨j, rfl, k H' F' fp' g s'⟩
  · cases em
def cutD {α : Type} (xs : List α) (lo hi : Option Int) : List α := (xs.drop (HT.sIx xs.length 0 lo)).take (HT.sIx xs.length xs.length hi - HT.sIx xs.length 0 lo)
def gSl : D → Option Int → Option Int → Option D
  | .lst _ ds, lo, hi => if plain ds = true then some (.lst true (cutD ds lo hi)) else none
  | .fro ds, lo, hi => some (.lst true (cutD ds lo hi))
  | .tup ds, lo, hi => some (.tup (cutD ds lo hi))
  | _, _, _ => none
theorem Rps.cut {K : PySem.W.Frag} {F : Hp} {ds : List D} {vs : List V} (r : Rps K F ds vs) (lo hi : Option Int) : Rps K F (cutD ds lo hi) (cutV vs lo hi) := by
  unfold cutD cutV
  rw [r.length]
  exact (r.drop _).take _
def mSl (o : OM) (lo hi : PM) : EM := fun st => match o st with
  | some (h, st1) => match lo st1 with
    | some (i, st2) => match hi st2 with
      | some (j, st3) => match h.get st3 with
        | some d => match gSl d i j with
          | some z => some (z, st3)
          | none => none
        | none => none
      | none => none
    | none => none
  | none => none
def rSlG (K : PySem.W.Frag) : V → Option Int → Option Int → Hp → VK → Prop := fun x lo hi H Q => rSlL K x lo hi H Q ∨ rSlA K x lo hi H Q
theorem j_sl {lo hi : Option Expr} {ml mh : PM} {p2 : Pos} (ha : OE X a o1) (hl : PJ X lo ml) (hh : PJ X hi mh) : ME X (.Subscript a (.Slice lo hi none p2) pos) (mSl o1 ml mh) :=
  PE.mono (pe_slice (r := rSlG X.K) (sl_list.or sl_tupA) ha hl hh) fun σ H Q ⟨B, F, st, fp, z, st', s, em, k⟩ => by
  unfold mSl at em
  split at em
  · rename_i h1 st1 q1
    split at em
    · rename_i i st2 q2
      split at em
      · rename_i j st3 q3
        split at em
        · rename_i d q4
          split at em
          · rename_i z' q5
            cases em
            refine ⟨B, F, st, fp, h1, st1, s, q1, fun v H1 F1 fp1 g1 s1 r1 => ⟨B, F1, st1, fp1, i, st2, s1, q2, fun H2 F2 fp2 g2 s2 => ⟨B, F2, st2, fp2, j, _, s2, q3, fun H3 F3 fp3 g3 s3 => ?_⟩⟩⟩
            obtain ⟨f1, ow⟩ := s3.look ((r1.mono g2.ex).mono g3.ex) q4
            have nw : New X.K B F3 H3 z Q := New.go (B' := B) (m := mC z) (st' := st) s3 fun v' H' F' fp' fv g s' r' => k v' H' F' fp' fv (((g1.trans g2).trans g3).trans g) s' r'
            unfold gSl at q5
            split at q5
            · split at q5
              · rename_i hp
                cases q5
                obtain ⟨c, vs, rfl, e1, r⟩ := ow_lstP s3.fh ow hp
                exact .inl ⟨c, vs, rfl, SqL.of e1, fun p hp => new_lst (fs := []) nw s3.bh s3.fh hp (r.cut i j)⟩
              · cases q5
            · cases q5
              obtain ⟨c, vs, rfl, e1, r⟩ := ow_fro ow
              exact .inl ⟨c, vs, rfl, s3.fh.seq e1, fun p hp => new_lst (fs := []) nw s3.bh s3.fh hp (r.cut i j)⟩
            · cases q5
              obtain ⟨c, vs, rfl, e1, r⟩ := ow_tup ow
              refine .inr ⟨c, vs, rfl, s3.fh.sqT e1, fun hw => ?_, fun hw p hp => new_tup nw s3.fh hp (r.cut i j)⟩
              have e2 := r.cut i j
              have e3 : cutV vs i j = vs := by
                unfold cutV
                rw [hw.1, hw.2, List.drop_zero, Nat.sub_zero, List.take_length]
              rw [e3] at e2
              exact new_imm nw s3.fh (.tup e1 e2)
            · cases q5
          · cases em
        · cases em
      · cases em
    · cases em
  · cases em
/-- xs[::-1] -/
def gRev : D → Option D
  | .lst _ ds => if plain ds = true then some (.lst true ds.reverse) else none
  | .fro ds => some (.lst true ds.reverse)
  | _ => none
theorem j_rev {k : Nat} {p1 p2 p3 : Pos} (ha : OE X a o1) : ME X (.Subscript a (.Slice none none (some (.UnaryOp .USub (.Constant (.int 1) k p1) p2)) p3) pos) (mUn gRev o1) :=
  PE.mono (pe_revL ha) fun σ H Q h => read1 (r := fun x H1 Q => ∃ a xs, x = .ref a ∧ SqL X.K H1 a xs ∧ ∀ p, H1 p = none → Q (.ref p) (upd H1 p (.lst xs.reverse))) (fun B F H d v f z Q bh fh h1 hg n => by
    unfold gRev at hg
    split at hg
    · split at hg
      · rename_i hp
        cases hg
        obtain ⟨c, vs, rfl, e1, r⟩ := ow_lstP fh h1 hp
        exact ⟨c, vs, rfl, SqL.of e1, fun p hp => new_lst (fs := []) n bh fh hp r.reverse⟩
      · cases hg
    · cases hg
      obtain ⟨c, vs, rfl, e1, r⟩ := ow_fro h1
      exact ⟨c, vs, rfl, fh.seq e1, fun p hp => new_lst (fs := []) n bh fh hp r.reverse⟩
    · cases hg) h
end
end MP

/-! MP4: built-ins of one and two arguments, truth. -/
namespace MP
open PySem L2
section
variable {X : Cx} {e a b : Expr} {es : List Expr} {m : EM} {r : AM} {o o1 o2 : OM} {pos : Pos} {x : Str} {p : Pos} {id T : String}
theorem j_callB1 {rr : List V → Hp → VK → Prop} {g : D → Option D} (hc : CallR X (.builtin id) rr) (hr : UnOk X (fun x H Q => rr [x] H Q) g) (hv : bootBuiltins x = some (.builtin id)) (hg : Gl X x) (hm : X.mg x = none) (ha : OE X a o)
    (hn : x ≠ "__name__" := by decide) (hdb : (x == ("__debug__" : Str)) = false := by decide) (he : starEach [a] X.env = (false, eval a X.env) :: starEach [] X.env := by rfl) (hpl : (backTo pos (starEach [] X.env)).any (·.1) = false := by rfl) :
    ME X (.Call (.Name x p) [a] [] pos) (mUn g o) := PE.mono (pe_callB hc hg hm hv (pa_cons ha pa_nil he) hn hdb he hpl) fun σ H Q h => read1 hr h
theorem j_callT1 {rr : List V → Hp → VK → Prop} {g : D → Option D} (hc : CallR X (.type T) rr) (hr : UnOk X (fun x H Q => rr [x] H Q) g) (hv : bootBuiltins x = some (.type T)) (hg : Gl X x) (hm : X.mg x = none) (ha : OE X a o)
    (hn : x ≠ "__name__" := by decide) (hdb : (x == ("__debug__" : Str)) = false := by decide) (he : starEach [a] X.env = (false, eval a X.env) :: starEach [] X.env := by rfl) (hpl : (backTo pos (starEach [] X.env)).any (·.1) = false := by rfl) :
    ME X (.Call (.Name x p) [a] [] pos) (mUn g o) := PE.mono (pe_callTy hc hg hm hv (pa_cons ha pa_nil he) hn hdb he hpl) fun σ H Q h => read1 hr h
theorem j_callB2 {rr : List V → Hp → VK → Prop} {g : D → D → Option D} (hc : CallR X (.builtin id) rr) (hr : BinOk X (fun x y H Q => rr [x, y] H Q) g) (hv : bootBuiltins x = some (.builtin id)) (hg : Gl X x) (hm : X.mg x = none) (ha : OE X a o1) (hb : OE X b o2)
    (hn : x ≠ "__name__" := by decide) (hdb : (x == ("__debug__" : Str)) = false := by decide) (he : starEach [a, b] X.env = (false, eval a X.env) :: starEach [b] X.env := by rfl) (he2 : starEach [b] X.env = (false, eval b X.env) :: starEach [] X.env := by rfl)
    (hpl : (backTo pos (starEach [b] X.env)).any (·.1) = false := by rfl) :
    ME X (.Call (.Name x p) [a, b] [] pos) (mBin g o1 o2) := PE.mono (pe_callB hc hg hm hv (pa_cons ha (pa_cons hb pa_nil he2) he) hn hdb he hpl) fun σ H Q h => read2 hr h

/-! ### len -/
def gLen : D → Option D
  | .str x => if x.length ≤ 16777216 then some (.int x.length) else none
  | .dic _ ks _ => some (.int ks.length)
  | d => match itemsOf d with
    | some ds => some (.int ds.length)
    | none => none
def rLenG (K : PySem.W.Frag) : List V → Hp → VK → Prop := fun xs H Q => (∃ x n, xs = [x] ∧ LenV K x H n ∧ Q (.int n) H) ∨ ∃ a kvs, xs = [.ref a] ∧ H a = some (.dK kvs) ∧ Q (.int kvs.length) H
theorem call_lenG : CallR X (.builtin "len") (rLenG X.K) := call_len.or fun pins s σ H xs us Q I r h => by
  obtain ⟨a, kvs, rfl, e, q⟩ := h
  obtain ⟨u, rfl, rx⟩ := vals1 r
  obtain rfl : u = Value.ref a := rx
  exact d_len I (.inl e) fun t s' I' => ⟨.int kvs.length, H, I', ⟨t, rfl⟩, q⟩
theorem g_len : UnOk X (fun x H Q => rLenG X.K [x] H Q) gLen := fun B F H d v f z Q bh fh h1 hg n => by
  unfold gLen at hg
  split at hg
  · split at hg
    · rename_i hz
      cases hg
      obtain rfl := ow_str h1
      exact .inl ⟨_, _, rfl, ⟨szl hz, rfl⟩, new_imm n fh (.int _)⟩
    · cases hg
  · cases hg
    obtain ⟨a, kvs, fs, rfl, e1, e3, ow⟩ := ow_dic fh h1
    subst e3
    refine .inr ⟨a, kvs, rfl, e1, ?_⟩
    have q := new_imm n fh (.int _)
    rw [List.length_map] at q
    exact q
  · split at hg
    · rename_i ds hi
      cases hg
      obtain ⟨a, vs, fs, rfl, e1, ow⟩ := ow_items fh h1 hi
      refine .inl ⟨_, vs.length, rfl, ?_, ?_⟩
      · rcases e1 with e1 | e1
        · exact .inl ⟨vs, e1, rfl⟩
        · exact .inr ⟨vs, e1, rfl⟩
      · rw [← ow.length]
        exact new_imm n fh (.int _)
    · cases hg
theorem gLen_own : ∀ d z, gLen d = some z → z.own = false := fun d z h => by
  unfold gLen at h
  split at h
  · split at h
    · cases h; rfl
    · cases h
  · cases h; rfl
  · split at h
    · cases h; rfl
    · cases h
theorem j_len (hg : Gl X "len") (hm : X.mg "len" = none) (ha : OE X a o) (he : starEach [a] X.env = (false, eval a X.env) :: starEach [] X.env := by rfl) (hpl : (backTo pos (starEach [] X.env)).any (·.1) = false := by rfl) : VE X (.Call (.Name "len" p) [a] [] pos) (mUn gLen o) :=
  j_down (j_callB1 call_lenG g_len PySem.boot_len hg hm ha (by decide) (by decide) he hpl) (mUn_own gLen_own)

/-! ### abs, int -/
def gAbs : D → Option D
  | .int i => some (.int (if i < 0 then -i else i))
  | _ => none
theorem g_abs : UnOk X (fun x H Q => (fun xs H Q => ∃ i, xs = [V.int i] ∧ Q (.int (if i < 0 then -i else i)) H : List V → Hp → VK → Prop) [x] H Q) gAbs := fun B F H d v f z Q bh fh h1 hg n => by
  unfold gAbs at hg
  split at hg
  · cases hg
    obtain rfl := ow_int h1
    exact ⟨_, rfl, new_imm n fh (.int _)⟩
  · cases hg
theorem j_abs (hg : Gl X "abs") (hm : X.mg "abs" = none) (ha : OE X a o) (he : starEach [a] X.env = (false, eval a X.env) :: starEach [] X.env := by rfl) (hpl : (backTo pos (starEach [] X.env)).any (·.1) = false := by rfl) : VE X (.Call (.Name "abs" p) [a] [] pos) (mUn gAbs o) :=
  j_down (j_callB1 call_abs g_abs (by decide +kernel) hg hm ha (by decide) (by decide) he hpl) (mUn_own fun d z h => by unfold gAbs at h; split at h <;> cases h; rfl)
def gInt : D → Option D
  | .int i => some (.int i)
  | .bl b => some (.int (if b then 1 else 0))
  | _ => none
theorem g_int : UnOk X (fun x H Q => (fun xs H Q => (∃ i, xs = [V.int i] ∧ Q (.int i) H) ∨ ∃ k, xs = [V.bl k] ∧ Q (.int (if k then 1 else 0)) H : List V → Hp → VK → Prop) [x] H Q) gInt := fun B F H d v f z Q bh fh h1 hg n => by
  unfold gInt at hg
  split at hg
  · cases hg
    obtain rfl := ow_int h1
    exact .inl ⟨_, rfl, new_imm n fh (.int _)⟩
  · cases hg
    obtain rfl := ow_bl h1
    exact .inr ⟨_, rfl, new_imm n fh (.int _)⟩
  · cases hg
theorem j_intc (hg : Gl X "int") (hm : X.mg "int" = none) (ha : OE X a o) (he : starEach [a] X.env = (false, eval a X.env) :: starEach [] X.env := by rfl) (hpl : (backTo pos (starEach [] X.env)).any (·.1) = false := by rfl) : VE X (.Call (.Name "int" p) [a] [] pos) (mUn gInt o) :=
  j_down (j_callT1 call_int1 g_int (by decide +kernel) hg hm ha (by decide) (by decide) he hpl) (mUn_own fun d z h => by unfold gInt at h; split at h <;> cases h <;> rfl)

/-! ### list(..), tuple(..) -/
def gList : D → Option D := fun d => match itemsOf d with
  | some ds => if plain ds = true then some (.lst true ds) else none
  | none => none
theorem g_list : UnOk X (fun x H Q => (fun xs H Q => ∃ p ys, xs = [V.ref p] ∧ (SqL X.K H p ys ∨ SqT X.K H p ys) ∧ ∀ l, H l = none → Q (.ref l) (upd H l (.lst ys)) : List V → Hp → VK → Prop) [x] H Q) gList := fun B F H d v f z Q bh fh h1 hg n => by
  unfold gList at hg
  split at hg
  · rename_i ds hi
    split at hg
    · rename_i hp
      cases hg
      obtain ⟨a, vs, fs, rfl, e1, ow⟩ := ow_items fh h1 hi
      exact ⟨a, vs, rfl, e1, fun l hl => new_lst (fs := []) n bh fh hl (ow.rps hp).1⟩
    · cases hg
  · cases hg
theorem j_list (hg : Gl X "list") (hm : X.mg "list" = none) (ha : OE X a o) (he : starEach [a] X.env = (false, eval a X.env) :: starEach [] X.env := by rfl) (hpl : (backTo pos (starEach [] X.env)).any (·.1) = false := by rfl) : ME X (.Call (.Name "list" p) [a] [] pos) (mUn gList o) :=
  j_callT1 call_list_of g_list (by decide +kernel) hg hm ha (by decide) (by decide) he hpl
def gTuple : D → Option D
  | .tup ds => some (.tup ds)
  | .lst _ ds => if plain ds = true then some (.tup ds) else none
  | .fro ds => some (.tup ds)
  | _ => none
theorem g_tuple : UnOk X (fun x H Q => (fun xs H Q => ∃ p ys, xs = [V.ref p] ∧ ((SqL X.K H p ys ∧ ∀ l, H l = none → Q (.ref l) (upd H l (.tup ys))) ∨ (SqT X.K H p ys ∧ Q (.ref p) H)) : List V → Hp → VK → Prop) [x] H Q) gTuple := fun B F H d v f z Q bh fh h1 hg n => by
  unfold gTuple at hg
  split at hg
  · cases hg
    obtain ⟨a, vs, rfl, e1, r⟩ := ow_tup h1
    exact ⟨a, vs, rfl, .inr ⟨fh.sqT e1, new_imm n fh (.tup e1 r)⟩⟩
  · split at hg
    · rename_i hp
      cases hg
      obtain ⟨a, vs, rfl, e1, r⟩ := ow_lstP fh h1 hp
      exact ⟨a, vs, rfl, .inl ⟨SqL.of e1, fun l hl => new_tup n fh hl r⟩⟩
    · cases hg
  · cases hg
    obtain ⟨a, vs, rfl, e1, r⟩ := ow_fro h1
    exact ⟨a, vs, rfl, .inl ⟨fh.seq e1, fun l hl => new_tup n fh hl r⟩⟩
  · cases hg
theorem j_tuple (hg : Gl X "tuple") (hm : X.mg "tuple" = none) (ha : OE X a o) (he : starEach [a] X.env = (false, eval a X.env) :: starEach [] X.env := by rfl) (hpl : (backTo pos (starEach [] X.env)).any (·.1) = false := by rfl) : VE X (.Call (.Name "tuple" p) [a] [] pos) (mUn gTuple o) :=
  j_down (j_callT1 call_tuple_of g_tuple (by decide +kernel) hg hm ha (by decide) (by decide) he hpl) (mUn_own fun d z h => by
    unfold gTuple at h
    split at h
    · cases h; rfl
    · split at h
      · cases h; rfl
      · cases h
    · cases h; rfl
    · cases h)

/-! ### sum, min, max -/
def intsOf : List D → Option (List Int)
  | [] => some []
  | .int i :: ds => match intsOf ds with
    | some ns => some (i :: ns)
    | none => none
  | _ :: _ => none
theorem intsOf_eq : ∀ {ds : List D} {ns : List Int}, intsOf ds = some ns → ds = ns.map D.int
  | [], ns, h => by cases h; rfl
  | d :: ds, ns, h => by
    cases d with
    | int i =>
      unfold intsOf at h
      split at h
      · rename_i ms q
        cases h
        rw [intsOf_eq q]
        rfl
      · cases h
    | _ => cases h
theorem intsOf_map : ∀ ns : List Int, intsOf (ns.map D.int) = some ns
  | [] => rfl
  | n :: ns => by
    show (match intsOf (ns.map D.int) with | some ms => some (n :: ms) | none => none) = some (n :: ns)
    rw [intsOf_map ns]
theorem ints_plain (ns : List Int) : plain (ns.map D.int) = true := by
  unfold plain
  rw [List.all_map]
  exact List.all_eq_true.mpr fun _ _ => rfl
def intItems (d : D) : Option (List Int) := match d with
  | .lst _ ds => intsOf ds
  | .fro ds => intsOf ds
  | _ => none
theorem ow_ints {K : PySem.W.Frag} {B F H : Hp} {d : D} {v : V} {f : List Addr} {ns : List Int} (fh : Same F H) (h : Ow K B F H d v f) (e : intItems d = some ns) : ∃ a, v = .ref a ∧ SqL K H a (ns.map V.int) := by
  unfold intItems at e
  split at e
  · rw [intsOf_eq e] at h
    obtain ⟨a, vs, rfl, e1, r⟩ := ow_lstP fh h (ints_plain ns)
    rw [r.ints] at e1
    exact ⟨a, rfl, SqL.of e1⟩
  · rw [intsOf_eq e] at h
    obtain ⟨a, vs, rfl, e1, r⟩ := ow_fro h
    rw [r.ints] at e1
    exact ⟨a, rfl, fh.seq e1⟩
  · cases e
def minI : List Int → Int
  | [] => 0
  | [n] => n
  | n :: ns => min n (minI ns)
def maxI : List Int → Int
  | [] => 0
  | [n] => n
  | n :: ns => max n (maxI ns)
theorem minI_is : ∀ {ns : List Int} {m : Int}, m ∈ ns → (∀ y ∈ ns, m ≤ y) → m = minI ns
  | [], m, h, _ => by cases h
  | [n], m, h, _ => (List.mem_singleton.mp h : m = n)
  | n :: k :: ns, m, h, g => by
    show m = min n (minI (k :: ns))
    have gn := g n List.mem_cons_self
    rcases List.mem_cons.mp h with rfl | h
    · have : m ≤ minI (k :: ns) := by
        have all : ∀ (l : List Int), l ≠ [] → (∀ y ∈ l, m ≤ y) → m ≤ minI l := by
          intro l
          induction l with
          | nil => intro z; exact absurd rfl z
          | cons a r ih =>
            intro _ q
            cases r with
            | nil => exact q a List.mem_cons_self
            | cons b r =>
              have h1 := q a List.mem_cons_self
              have h2 := ih (List.cons_ne_nil _ _) fun y hy => q y (List.mem_cons_of_mem _ hy)
              show m ≤ min a (minI (b :: r))
              omega
        exact all _ (List.cons_ne_nil _ _) fun y hy => g y (List.mem_cons_of_mem _ hy)
      omega
    · have e := minI_is h fun y hy => g y (List.mem_cons_of_mem _ hy)
      omega
theorem maxI_is : ∀ {ns : List Int} {m : Int}, m ∈ ns → (∀ y ∈ ns, y ≤ m) → m = maxI ns
  | [], m, h, _ => by cases h
  | [n], m, h, _ => (List.mem_singleton.mp h : m = n)
  | n :: k :: ns, m, h, g => by
    show m = max n (maxI (k :: ns))
    have gn := g n List.mem_cons_self
    rcases List.mem_cons.mp h with rfl | h
    · have : maxI (k :: ns) ≤ m := by
        have all : ∀ (l : List Int), l ≠ [] → (∀ y ∈ l, y ≤ m) → maxI l ≤ m := by
          intro l
          induction l with
          | nil => intro z; exact absurd rfl z
          | cons a r ih =>
            intro _ q
            cases r with
            | nil => exact q a List.mem_cons_self
            | cons b r =>
              have h1 := q a List.mem_cons_self
              have h2 := ih (List.cons_ne_nil _ _) fun y hy => q y (List.mem_cons_of_mem _ hy)
              show max a (maxI (b :: r)) ≤ m
              omega
        exact all _ (List.cons_ne_nil _ _) fun y hy => g y (List.mem_cons_of_mem _ hy)
      omega
    · have e := maxI_is h fun y hy => g y (List.mem_cons_of_mem _ hy)
      omega
def gSum : D → Option D := fun d => match intItems d with
  | some ns => some (.int ns.sum)
  | none => none
def gMin : D → Option D := fun d => match intItems d with
  | some ns => if 0 < ns.length then some (.int (minI ns)) else none
  | none => none
def gMax : D → Option D := fun d => match intItems d with
  | some ns => if 0 < ns.length then some (.int (maxI ns)) else none
  | none => none
theorem g_sum : UnOk X (fun x H Q => rSum X.K [x] H Q) gSum := fun B F H d v f z Q bh fh h1 hg n => by
  unfold gSum at hg
  split at hg
  · rename_i ns hi
    cases hg
    obtain ⟨a, rfl, e1⟩ := ow_ints fh h1 hi
    exact ⟨a, ns, rfl, e1, new_imm n fh (.int _)⟩
  · cases hg
theorem g_min : UnOk X (fun x H Q => rMin X.K [x] H Q) gMin := fun B F H d v f z Q bh fh h1 hg n => by
  unfold gMin at hg
  split at hg
  · rename_i ns hi
    split at hg
    · rename_i hl
      cases hg
      obtain ⟨a, rfl, e1⟩ := ow_ints fh h1 hi
      refine ⟨a, ns, rfl, e1, hl, fun m hm hy => ?_⟩
      rw [minI_is hm hy]
      exact new_imm n fh (.int _)
    · cases hg
  · cases hg
theorem g_max : UnOk X (fun x H Q => rMax X.K [x] H Q) gMax := fun B F H d v f z Q bh fh h1 hg n => by
  unfold gMax at hg
  split at hg
  · rename_i ns hi
    split at hg
    · rename_i hl
      cases hg
      obtain ⟨a, rfl, e1⟩ := ow_ints fh h1 hi
      refine ⟨a, ns, rfl, e1, hl, fun m hm hy => ?_⟩
      rw [maxI_is hm hy]
      exact new_imm n fh (.int _)
    · cases hg
  · cases hg
theorem j_sum (hc : X.calm = true) (hg : Gl X "sum") (hm : X.mg "sum" = none) (ha : OE X a o) (he : starEach [a] X.env = (false, eval a X.env) :: starEach [] X.env := by rfl) (hpl : (backTo pos (starEach [] X.env)).any (·.1) = false := by rfl) : VE X (.Call (.Name "sum" p) [a] [] pos) (mUn gSum o) :=
  j_down (j_callB1 (cr_sum hc) g_sum (by decide +kernel) hg hm ha (by decide) (by decide) he hpl) (mUn_own fun d z h => by unfold gSum at h; split at h <;> cases h; rfl)
theorem j_min (hc : X.calm = true) (hg : Gl X "min") (hm : X.mg "min" = none) (ha : OE X a o) (he : starEach [a] X.env = (false, eval a X.env) :: starEach [] X.env := by rfl) (hpl : (backTo pos (starEach [] X.env)).any (·.1) = false := by rfl) : VE X (.Call (.Name "min" p) [a] [] pos) (mUn gMin o) :=
  j_down (j_callB1 (cr_min hc) g_min (by decide +kernel) hg hm ha (by decide) (by decide) he hpl) (mUn_own fun d z h => by
    unfold gMin at h
    split at h
    · split at h <;> cases h
      rfl
    · cases h)
theorem j_max (hc : X.calm = true) (hg : Gl X "max") (hm : X.mg "max" = none) (ha : OE X a o) (he : starEach [a] X.env = (false, eval a X.env) :: starEach [] X.env := by rfl) (hpl : (backTo pos (starEach [] X.env)).any (·.1) = false := by rfl) : VE X (.Call (.Name "max" p) [a] [] pos) (mUn gMax o) :=
  j_down (j_callB1 (cr_max hc) g_max (by decide +kernel) hg hm ha (by decide) (by decide) he hpl) (mUn_own fun d z h => by
    unfold gMax at h
    split at h
    · split at h <;> cases h
      rfl
    · cases h)
def gMin2 : D → D → Option D
  | .int i, .int j => some (.int (if j < i then j else i))
  | _, _ => none
def gMax2 : D → D → Option D
  | .int i, .int j => some (.int (if j > i then j else i))
  | _, _ => none
theorem g_min2 : BinOk X (fun x y H Q => (fun xs H Q => ∃ i j, xs = [V.int i, V.int j] ∧ Q (.int (if j < i then j else i)) H : List V → Hp → VK → Prop) [x, y] H Q) gMin2 := fun B F H d e v w f f' z Q bh fh h1 h2 hg n => by
  unfold gMin2 at hg
  split at hg
  · cases hg
    obtain rfl := ow_int h1
    obtain rfl := ow_int h2
    exact ⟨_, _, rfl, new_imm n fh (.int _)⟩
  · cases hg
theorem g_max2 : BinOk X (fun x y H Q => (fun xs H Q => ∃ i j, xs = [V.int i, V.int j] ∧ Q (.int (if j > i then j else i)) H : List V → Hp → VK → Prop) [x, y] H Q) gMax2 := fun B F H d e v w f f' z Q bh fh h1 h2 hg n => by
  unfold gMax2 at hg
  split at hg
  · cases hg
    obtain rfl := ow_int h1
    obtain rfl := ow_int h2
    exact ⟨_, _, rfl, new_imm n fh (.int _)⟩
  · cases hg
theorem j_min2 (hc : X.calm = true) (hg : Gl X "min") (hm : X.mg "min" = none) (ha : OE X a o1) (hb : OE X b o2) (he : starEach [a, b] X.env = (false, eval a X.env) :: starEach [b] X.env := by rfl) (he2 : starEach [b] X.env = (false, eval b X.env) :: starEach [] X.env := by rfl)
    (hpl : (backTo pos (starEach [b] X.env)).any (·.1) = false := by rfl) : VE X (.Call (.Name "min" p) [a, b] [] pos) (mBin gMin2 o1 o2) :=
  j_down (j_callB2 (call_min2 hc) g_min2 (by decide +kernel) hg hm ha hb (by decide) (by decide) he he2 hpl) (mBin_own fun d e z h => by unfold gMin2 at h; split at h <;> cases h; rfl)
theorem j_max2 (hc : X.calm = true) (hg : Gl X "max") (hm : X.mg "max" = none) (ha : OE X a o1) (hb : OE X b o2) (he : starEach [a, b] X.env = (false, eval a X.env) :: starEach [b] X.env := by rfl) (he2 : starEach [b] X.env = (false, eval b X.env) :: starEach [] X.env := by rfl)
    (hpl : (backTo pos (starEach [b] X.env)).any (·.1) = false := by rfl) : VE X (.Call (.Name "max" p) [a, b] [] pos) (mBin gMax2 o1 o2) :=
  j_down (j_callB2 (call_max2 hc) g_max2 (by decide +kernel) hg hm ha hb (by decide) (by decide) he he2 hpl) (mBin_own fun d e z h => by unfold gMax2 at h; split at h <;> cases h; rfl)

/-! ### isinstance -/
inductive Ty where
  | int | bool | str | tuple | list | dict
def Ty.nm : Ty → String
  | .int => "int" | .bool => "bool" | .str => "str" | .tuple => "tuple" | .list => "list" | .dict => "dict"
/-- isinstance of data -/
def isT : Ty → D → Bool
  | .int, .int _ => true
  | .int, .bl _ => true
  | .bool, .bl _ => true
  | .str, .str _ => true
  | .tuple, .tup _ => true
  | .list, .lst _ _ => true
  | .list, .fro _ => true
  | .dict, .dic _ _ _ => true
  | _, _ => false
def tyN : D → String
  | .non => "NoneType" | .bl _ => "bool" | .int _ => "int" | .str _ => "str" | .tup _ => "tuple" | .lst _ _ => "list" | .fro _ => "list" | .dic _ _ _ => "dict"
theorem kit_tbl : (["NoneType", "bool", "int", "str", "tuple", "list", "dict"].all fun a => ["int", "bool", "str", "tuple", "list", "dict"].all fun b => kitB a b == some (a == b || (a == "bool" && b == "int"))) = true := by decide +kernel
theorem kit_d (t : Ty) (d : D) : kitB (tyN d) t.nm = some (isT t d) := by
  have h := List.all_eq_true.mp kit_tbl
  have hd : tyN d ∈ ["NoneType", "bool", "int", "str", "tuple", "list", "dict"] := by cases d <;> simp [tyN]
  have ht : t.nm ∈ ["int", "bool", "str", "tuple", "list", "dict"] := by cases t <;> simp [Ty.nm]
  have q := List.all_eq_true.mp (h _ hd) _ ht
  have e : kitB (tyN d) t.nm = some (tyN d == t.nm || (tyN d == "bool" && t.nm == "int")) := by simpa using q
  rw [e]
  cases t <;> cases d <;> rfl
theorem tyX_l {K : PySem.W.Frag} {H : Hp} {a : Addr} {vs : List V} (h : SqL K H a vs) : TyX K H (.ref a) (.type "list") := by
  rcases h with (h | ⟨o, h⟩) | ⟨o, its, n, h, c, _⟩
  · exact .base (.lst h)
  · exact .base (.frz h)
  · exact .kList h c
theorem tyX_t {K : PySem.W.Frag} {H : Hp} {a : Addr} {vs : List V} (h : SqT K H a vs) : TyX K H (.ref a) (.type "tuple") := by
  rcases h with (h | ⟨o, h⟩) | ⟨o, its, n, h, c, _⟩
  · exact .base (.tup h)
  · exact .fTuple h
  · exact .kTuple h c
theorem tyX_d {K : PySem.W.Frag} {B F H : Hp} {d : D} {v : V} {f : List Addr} (fh : Same F H) (h : Ow K B F H d v f) : TyX K H v (.type (tyN d)) := by
  cases d with
  | non => obtain rfl := ow_non h; exact .base .non
  | bl b => obtain rfl := ow_bl h; exact .base (.bl b)
  | int i => obtain rfl := ow_int h; exact .base (.int i)
  | str x => obtain rfl := ow_str h; exact .base (.str x)
  | tup ds => obtain ⟨a, vs, rfl, e, _⟩ := ow_tup h; exact tyX_t (fh.sqT e)
  | lst o ds => obtain ⟨a, vs, fs, rfl, e, _⟩ := ow_lst fh h; exact tyX_l (SqL.of e)
  | fro ds => obtain ⟨a, vs, rfl, e, _⟩ := ow_fro h; exact tyX_l (fh.seq e)
  | dic o ks ds => obtain ⟨a, kvs, fs, rfl, e, _⟩ := ow_dic fh h; exact .base (.dK e)
def gIsT (t : Ty) : D → Option D := fun d => some (.bl (isT t d))
theorem g_isT (t : Ty) : UnOk X (fun x H Q => rIsi X.K [x, .ty t.nm] H Q) (gIsT t) := fun B F H d v f z Q bh fh h1 hg n => by
  cases hg
  exact ⟨v, _, _, _, _, rfl, .ty _, tyX_d fh h1, kit_ty (kit_d t d), new_imm n fh (.bl _)⟩
theorem j_isi (t : Ty) (hg : Gl X "isinstance") (hm : X.mg "isinstance" = none) {y : Str} {py : Pos} (hgt : Gl X y) (hmt : X.mg y = none) (hv : bootBuiltins y = some (.type t.nm)) (ha : OE X a o) (hn : y ≠ "__name__" := by decide) (hdb : (y == ("__debug__" : Str)) = false := by decide)
    (he : starEach [a, .Name y py] X.env = (false, eval a X.env) :: starEach [.Name y py] X.env := by rfl) (he2 : starEach [.Name y py] X.env = (false, eval (.Name y py) X.env) :: starEach [] X.env := by rfl)
    (hpl : (backTo pos (starEach [.Name y py] X.env)).any (·.1) = false := by rfl) : VE X (.Call (.Name "isinstance" p) [a, .Name y py] [] pos) (mUn (gIsT t) o) :=
  j_down (PE.mono (pe_callB call_isi hg hm (by decide +kernel) (pa_cons ha (pa_cons (pe_bltn (v := .ty t.nm) hgt hmt hv rfl hn hdb) pa_nil he2) he) (by decide) (by decide) he hpl) fun σ H Q h => read1 (g_isT t) h) (mUn_own fun d z h => by cases h; rfl)

/-! ### truth -/
def gTru : D → Option Bool
  | .non => some false
  | .bl b => some b
  | .int i => some (i != 0)
  | .str x => if x.length ≤ 16777216 then some ((x.length : Int) != 0) else none
  | .tup ds => some (!ds.isEmpty)
  | .lst _ ds => some (!ds.isEmpty)
  | .fro ds => some (!ds.isEmpty)
  | .dic _ ks _ => some (!ks.isEmpty)
theorem isEmpty_len {α β : Type} {l : List α} {r : List β} (h : l.length = r.length) : l.isEmpty = r.isEmpty := by cases l <;> cases r <;> first | rfl | cases h
theorem tru_d {K : PySem.W.Frag} {B F H : Hp} {d : D} {v : V} {f : List Addr} {k : Bool} (fh : Same F H) (h : Ow K B F H d v f) (e : gTru d = some k) : TruV K v H k := by
  cases d with
  | non => obtain rfl := ow_non h; cases e; rfl
  | bl b => obtain rfl := ow_bl h; cases e; rfl
  | int i => obtain rfl := ow_int h; cases e; rfl
  | str x =>
    obtain rfl := ow_str h
    have e : (if x.length ≤ 16777216 then some ((x.length : Int) != 0) else none) = some k := e
    split at e
    · rename_i hz
      cases e
      exact ⟨szl hz, rfl⟩
    · cases e
  | tup ds =>
    obtain ⟨a, vs, rfl, e1, r⟩ := ow_tup h
    cases e
    exact .inr (.inl ⟨vs, fh.sqT e1, by rw [isEmpty_len r.length]⟩)
  | lst o ds =>
    obtain ⟨a, vs, fs, rfl, e1, r⟩ := ow_lst fh h
    cases e
    exact .inl ⟨vs, SqL.of e1, by rw [isEmpty_len r.length]⟩
  | fro ds =>
    obtain ⟨a, vs, rfl, e1, r⟩ := ow_fro h
    cases e
    exact .inl ⟨vs, fh.seq e1, by rw [isEmpty_len r.length]⟩
  | dic o ks ds =>
    obtain ⟨a, kvs, fs, rfl, e1, e3, r⟩ := ow_dic fh h
    subst e3
    cases e
    exact .inr (.inr ⟨kvs, e1, by cases kvs <;> rfl⟩)
def tTr (o : OM) : TM := fun st => match o st with
  | some (h, st1) => match h.get st1 with
    | some d => match gTru d with
      | some k => some (k, st1)
      | none => none
    | none => none
  | none => none
theorem j_tru (ha : OE X a o) (he : ∀ whole, isTrue a X.env whole = (do let v ← whole; standAt a.pos; holding [v] (truthy v)) := by exact fun _ => rfl) : BE X a (tTr o) :=
  PT.mono (pt_truth ha he) fun σ H Q ⟨B, F, st, fp, k, st', s, em, kk⟩ => by
  unfold tTr at em
  split at em
  · rename_i h st1 q1
    split at em
    · rename_i d q2
      split at em
      · rename_i b q3
        cases em
        refine ⟨B, F, st, fp, h, _, s, q1, fun v H1 F1 fp1 g1 s1 r1 => ?_⟩
        obtain ⟨f1, ow⟩ := s1.look r1 q2
        exact ⟨_, tru_d s1.fh ow q3, kk H1 F1 fp1 g1 s1⟩
      · cases em
    · cases em
  · cases em
end
end MP

/-! MP5: statements. -/
namespace MP
open PySem L2

inductive Fl where
  | nx | bk | ct | rt (d : D)
abbrev SM := S → Option (Fl × S)
def Fin (K : PySem.W.Frag) (B F H : Hp) (fp : Nat → List Addr) (D : Ends) (fl : Fl) (σ : L2.St) : Prop := match fl with
  | .nx => D.nx σ H
  | .bk => D.bk σ H
  | .ct => D.ct σ H
  | .rt d => ∀ v fv, RV K B F H fp d v fv → D.rt v H
def tS (K : PySem.W.Frag) (n : Nat) (pn : List Nat) (m : SM) : TS := fun D σ H => ∃ B F st fp fl st', SR K B F H st σ fp ∧ st.length = n ∧ m st = some (fl, st') ∧
  ∀ σ' H' F' fp', Gr B F F' → SR K B F' H' st' σ' fp' → (∀ i ∈ pn, σ'[i]? = σ[i]?) → st'.length = n → Fin K B F' H' fp' D fl σ'
abbrev SE (X : Cx) (pn : List Nat) (s : Stmt) (m : SM) : Prop := PS X s (tS X.K X.N.length pn m)
abbrev BS (X : Cx) (pn : List Nat) (s : List Stmt) (m : SM) : Prop := PSs X s (tS X.K X.N.length pn m)
def mNx : SM := fun st => some (.nx, st)
def mSq (a b : SM) : SM := fun st => match a st with
  | some (.nx, st1) => b st1
  | r => r
section
variable {X : Cx} {pn : List Nat} {s : Stmt} {ss : List Stmt} {a b : SM} {e : Expr} {m : EM} {pos : Pos} {o o1 o2 : OM}
theorem b_nil : BS X pn [] mNx := PSs.mono pss_nil fun D σ H ⟨B, F, st, fp, fl, st', s, hl, em, k⟩ => by
  cases em
  exact k σ H F fp .refl s (fun _ _ => rfl) hl
theorem b_one (h : SE X pn s a) : BS X pn [s] a := pss_one h
theorem b_cons (h1 : SE X pn s a) (h2 : BS X pn ss b) : BS X pn (s :: ss) (mSq a b) := PSs.mono (pss_cons h1 h2) fun D σ H ⟨B, F, st, fp, fl, st', s, hl, em, k⟩ => by
  unfold mSq at em
  cases q : a st with
  | none => rw [q] at em; cases em
  | some w =>
    obtain ⟨f1, st1⟩ := w
    rw [q] at em
    cases f1 with
    | nx =>
      exact ⟨B, F, st, fp, .nx, st1, s, hl, q, fun σ1 H1 F1 fp1 g1 s1 p1 l1 => ⟨B, F1, st1, fp1, fl, st', s1, l1, em, fun σ' H' F' fp' g s' p' l' => k σ' H' F' fp' (g1.trans g) s' (fun i hi => (p' i hi).trans (p1 i hi)) l'⟩⟩
    | bk => cases em; exact ⟨B, F, st, fp, .bk, _, s, hl, q, k⟩
    | ct => cases em; exact ⟨B, F, st, fp, .ct, _, s, hl, q, k⟩
    | rt d => cases em; exact ⟨B, F, st, fp, .rt d, _, s, hl, q, k⟩
/-- code that is not reached -/
def mNever : SM := fun _ => none
theorem b_never : BS X pn ss mNever := PSs.mono pss_never fun D σ H ⟨B, F, st, fp, fl, st', s, hl, em, k⟩ => by cases em
theorem s_never : SE X pn s mNever := PS.mono ps_never fun D σ H ⟨B, F, st, fp, fl, st', s, hl, em, k⟩ => by cases em
theorem s_pass : SE X pn (.Pass pos) mNx := PS.mono ps_pass fun D σ H ⟨B, F, st, fp, fl, st', s, hl, em, k⟩ => by
  cases em
  exact k σ H F fp .refl s (fun _ _ => rfl) hl
def mBk : SM := fun st => some (.bk, st)
def mCt : SM := fun st => some (.ct, st)
theorem s_break : SE X pn (.Break pos) mBk := PS.mono ps_break fun D σ H ⟨B, F, st, fp, fl, st', s, hl, em, k⟩ => by
  cases em
  exact k σ H F fp .refl s (fun _ _ => rfl) hl
theorem s_cont : SE X pn (.Continue pos) mCt := PS.mono ps_continue fun D σ H ⟨B, F, st, fp, fl, st', s, hl, em, k⟩ => by
  cases em
  exact k σ H F fp .refl s (fun _ _ => rfl) hl
/-- name = value -/
def mSet (i : Nat) (m : EM) : SM := fun st => match m st with
  | some (d, st1) => some (.nx, pt st1 i (some d))
  | none => none
theorem set_ne {σ : L2.St} {i : Nat} {x : Option V} (hi : pn.contains i = false) : ∀ j ∈ pn, (σ.set i x)[j]? = σ[j]? := fun j hj => by
  rw [List.getElem?_set_ne]
  intro z
  subst z
  rw [List.contains_iff_mem.mpr hj] at hi
  cases hi
theorem s_set {i : Nat} {x : Str} {pos' : Pos} (hN : X.N.Nodup) (hi : X.N[i]? = some x) (hx : Loc X.env.scope x) (he : ME X e m) (hp : pn.contains i = false := by rfl) (hs : swapsWith e (some (.Name x pos')) pos.line X.env = pure false := by rfl)
    (hf : X.fn x = true ∨ X.env.scope.names.lookup x = some .local := by first | exact .inl rfl | exact .inr rfl | assumption) :
    SE X pn (.Assign [.Name x pos'] e pos) (mSet i m) := PS.mono (ps_set hN hi hx he hs hf) fun D σ H ⟨B, F, st, fp, fl, st', s, hl, em, k⟩ => by
  unfold mSet at em
  cases q : m st with
  | none => rw [q] at em; cases em
  | some w =>
    obtain ⟨d, st1⟩ := w
    rw [q] at em
    cases em
    refine ⟨B, F, st, fp, d, st1, s, q, fun v H1 F1 fp1 fv g1 s1 r1 => ?_⟩
    have l1 : st1.length = X.N.length := by rw [s1.len, ← s.len]; exact hl
    exact k _ H1 F1 _ g1 (s1.put (by rw [l1]; exact (List.getElem?_eq_some_iff.mp hi).1) r1) (set_ne hp) (by rw [pt_length]; exact l1)
/-- an expression's value dropped -/
def mEx (m : EM) : SM := fun st => match m st with
  | some (_, st1) => some (.nx, st1)
  | none => none
theorem s_expr (he : ME X e m) (hs : swapsWith e none pos.line X.env = pure false := by rfl) : SE X pn (.Expr e pos) (mEx m) := PS.mono (ps_expr he hs) fun D σ H ⟨B, F, st, fp, fl, st', s, hl, em, k⟩ => by
  unfold mEx at em
  cases q : m st with
  | none => rw [q] at em; cases em
  | some w =>
    obtain ⟨d, st1⟩ := w
    rw [q] at em
    cases em
    exact ⟨B, F, st, fp, d, _, s, q, fun v H1 F1 fp1 fv g1 s1 r1 => k σ H1 F1 fp1 g1 s1 (fun _ _ => rfl) (by rw [s1.len, ← s.len]; exact hl)⟩
def mRt (m : EM) : SM := fun st => match m st with
  | some (d, st1) => some (.rt d, st1)
  | none => none
theorem s_ret (he : ME X e m) : SE X pn (.Return (some e) pos) (mRt m) := PS.mono (ps_ret he) fun D σ H ⟨B, F, st, fp, fl, st', s, hl, em, k⟩ => by
  unfold mRt at em
  cases q : m st with
  | none => rw [q] at em; cases em
  | some w =>
    obtain ⟨d, st1⟩ := w
    rw [q] at em
    cases em
    exact ⟨B, F, st, fp, d, _, s, q, fun v H1 F1 fp1 fv g1 s1 r1 => k σ H1 F1 fp1 g1 s1 (fun _ _ => rfl) (by rw [s1.len, ← s.len]; exact hl) v fv r1⟩
def mRtN : SM := fun st => some (.rt .non, st)
theorem s_retN : SE X pn (.Return none pos) mRtN := PS.mono ps_retN fun D σ H ⟨B, F, st, fp, fl, st', s, hl, em, k⟩ => by
  cases em
  exact k σ H F fp .refl s (fun _ _ => rfl) hl _ [] (RV.imm .non)
def mIfS (t : TM) (a b : SM) : SM := fun st => match t st with
  | some (true, st1) => a st1
  | some (false, st1) => b st1
  | none => none
theorem s_if {c : Expr} {ss1 ss2 : List Stmt} {t : TM} (hc : BE X c t) (ha : BS X pn ss1 a) (hb : BS X pn ss2 b) : SE X pn (.If c ss1 ss2 pos) (mIfS t a b) := PS.mono (ps_if hc ha hb) fun D σ H ⟨B, F, st, fp, fl, st', s, hl, em, k⟩ => by
  unfold mIfS at em
  cases q : t st with
  | none => rw [q] at em; cases em
  | some w =>
    obtain ⟨b1, st1⟩ := w
    rw [q] at em
    refine ⟨B, F, st, fp, b1, st1, s, q, fun H1 F1 fp1 g1 s1 => ?_⟩
    have l1 : st1.length = X.N.length := by rw [s1.len, ← s.len]; exact hl
    cases b1 with
    | true =>
      exact iteT ⟨B, F1, st1, fp1, fl, st', s1, l1, em, fun σ' H' F' fp' g s' p' l' => k σ' H' F' fp' (g1.trans g) s' p' l'⟩
    | false =>
      exact iteF ⟨B, F1, st1, fp1, fl, st', s1, l1, em, fun σ' H' F' fp' g s' p' l' => k σ' H' F' fp' (g1.trans g) s' p' l'⟩
/-- name op= value, of data that is not written in its place -/
def mAug (i : Nat) (g : D → D → Option D) (o : OM) : SM := fun st => match gt st i with
  | some d => match d.own with
    | true => none
    | false => match o st with
      | some (h, st1) => match h.get st1 with
        | some e => match g d e with
          | some z => some (.nx, pt st1 i (some z))
          | none => none
        | none => none
      | none => none
  | none => none
theorem s_aug {i : Nat} {x : Str} {op : Operator} {r : R2} {g : D → D → Option D} {pos' : Pos} (hN : X.N.Nodup) (hi : X.N[i]? = some x) (hx : Loc X.env.scope x) (ho : OpR X (inplaceOp op) r) (hr : BinOk X r g) (he : OE X e o) (hp : pn.contains i = false := by rfl)
    (hf : X.fn x = true ∨ X.env.scope.names.lookup x = some .local := by first | exact .inl rfl | exact .inr rfl | assumption) :
    SE X pn (.AugAssign (.Name x pos') op e pos) (mAug i g o) := PS.mono (ps_aug hN hi hx he (ti := r) (fun pins s σ H x y v u Q I rx ry h => ho pins s σ H x y v u Q I rx ry h) hf) fun D σ H ⟨B, F, st, fp, fl, st', s, hl, em, k⟩ => by
  unfold mAug at em
  split at em
  · rename_i d q0
    split at em
    · cases em
    · rename_i hown
      split at em
      · rename_i h st1 q
        split at em
        · rename_i e' q1
          split at em
          · rename_i z q2
            cases em
            obtain ⟨v, e1, ow⟩ := s.slot q0
            have rp := (ow.rp hown).1
            refine ⟨v, e1, B, F, st, fp, h, st1, s, q, fun w H1 F1 fp1 g1 s1 r1 => ?_⟩
            obtain ⟨f2, o2⟩ := s1.look r1 q1
            have l1 : st1.length = X.N.length := by rw [s1.len, ← s.len]; exact hl
            refine hr B F1 H1 d e' v w [] f2 z _ s1.bh s1.fh (.imm (Rp.mono g1.ex _ _ rp)) o2 q2 (New.go (B' := B) (m := mC z) (st' := st) s1 fun v' H' F' fp' fv g s' r' => ?_)
            exact k _ H' F' _ (g1.trans g) (s'.put (by rw [l1]; exact (List.getElem?_eq_some_iff.mp hi).1) r') (set_ne hp) (by rw [pt_length]; exact l1)
          · cases em
        · cases em
      · cases em
  · cases em
theorem s_iadd {i : Nat} {x : Str} {pos' : Pos} (hN : X.N.Nodup) (hi : X.N[i]? = some x) (hx : Loc X.env.scope x) (he : OE X e o) (hp : pn.contains i = false := by rfl) (hf : X.fn x = true ∨ X.env.scope.names.lookup x = some .local := by first | exact .inl rfl | exact .inr rfl | assumption) :
    SE X pn (.AugAssign (.Name x pos') .Add e pos) (mAug i (fun d e => match d, e with | .int a, .int b => some (.int (a + b)) | _, _ => none) o) := s_aug hN hi hx iop_add (fun B F H d e v w f f' z Q bh fh h1 h2 hg n => by
    split at hg
    · cases hg
      obtain rfl := ow_int h1
      obtain rfl := ow_int h2
      exact ⟨_, _, rfl, rfl, new_imm n fh (.int _)⟩
    · cases hg) he hp hf

/-! ### an object that a slot holds alone, written -/
theorem SR.poke {K : PySem.W.Frag} {B F H : Hp} {st : S} {σ : L2.St} {fp : Nat → List Addr} (s : SR K B F H st σ fp) {i : Nat} {c : Addr} {d : D} {ho : HO} {f : List Addr} (hv : σ[i]? = some (some (.ref c))) (hc : F c = none) (hb : B c = none) (hn : ∀ j, j ≠ i → c ∉ fp j)
    (o : Ow K B F (upd H c ho) d (.ref c) f) (nd : f.Nodup) (ap : ∀ j, j ≠ i → ∀ a ∈ fp j, a ∉ f) : SR K B F (upd H c ho) (pt st i (some d)) σ (fun j => if j = i then f else fp j) := by
  have hi : i < st.length := by rw [s.len]; exact (List.getElem?_eq_some_iff.mp hv).1
  refine ⟨by rw [pt_length]; exact s.len, fun a x e => ?_, fun a x e => ?_, fun j d' e => ?_, fun j e => ?_, fun j => ?_, fun x y a ha hb' => ?_⟩
  · rw [upd_ne fun z => by rw [z, hb] at e; cases e]
    exact s.bh a x e
  · rw [upd_ne fun z => by rw [z, hc] at e; cases e]
    exact s.fh a x e
  · by_cases hj : i = j
    · subst hj
      rw [pt_self hi] at e
      cases e
      rw [if_pos rfl]
      exact ⟨_, hv, o⟩
    · rw [pt_ne hj] at e
      rw [if_neg (Ne.symm hj)]
      obtain ⟨v, e1, o'⟩ := s.sl j d' e
      exact ⟨v, e1, o'.frame (.refl _) d' v _ (fun a ha => upd_ne fun z => hn j (Ne.symm hj) (z ▸ ha)) (fun a ha => (s.hold ha).2.1) fun a ha => (s.hold ha).2.2⟩
  · by_cases hj : j = i
    · subst hj
      exact absurd (pt_self hi) (e d)
    · rw [if_neg hj]
      refine s.em j fun d z => e d ?_
      rw [pt_ne (Ne.symm hj)]
      exact z
  · by_cases hj : j = i
    · rw [if_pos hj]; exact nd
    · rw [if_neg hj]; exact s.nd j
  · by_cases h1 : x = i
    · by_cases h2 : y = i
      · rw [h1, h2]
      · rw [if_pos h1] at ha
        rw [if_neg h2] at hb'
        exact absurd ha (ap y h2 a hb')
    · by_cases h2 : y = i
      · rw [if_neg h1] at ha
        rw [if_pos h2] at hb'
        exact absurd hb' (ap x h1 a ha)
      · rw [if_neg h1] at ha
        rw [if_neg h2] at hb'
        exact s.dj x y a ha hb'
theorem Ows.append {K : PySem.W.Frag} {B F H : Hp} : ∀ {ds es : List D} {vs ws : List V} {f g : List Addr}, Ows K B F H ds vs f → Ows K B F H es ws g → Ows K B F H (ds ++ es) (vs ++ ws) (f ++ g)
  | _, _, _, _, _, _, .nil, s => s
  | _, _, _, _, _, g, .cons (f := f1) (fs := f2) r t, s => by
    have := Ows.cons r (Ows.append t s)
    rw [← List.append_assoc] at this
    exact this
/-- an item taken out of its place, another one put there -/
theorem Ows.put {K : PySem.W.Frag} {B F H : Hp} {d' : D} {v' : V} {f' : List Addr} (o' : Ow K B F H d' v' f') : ∀ {ds : List D} {vs : List V} {f : List Addr} (j : Nat), Ows K B F H ds vs f → j < ds.length →
    ∃ f1 f2, Ows K B F H (ds.set j d') (vs.set j v') (f1 ++ (f' ++ f2)) ∧ (f1 ++ f2).Sublist f
  | _, _, _, _, .nil, h => absurd h (Nat.not_lt_zero _)
  | _, _, _, 0, .cons (f := fa) (fs := fb) r t, _ => ⟨[], fb, (by have q := Ows.cons o' t; exact q), List.sublist_append_right fa fb⟩
  | _, _, _, j + 1, .cons (f := fa) (fs := fb) r t, h => by
    obtain ⟨f1, f2, o, sl⟩ := Ows.put o' j t (by simpa using h)
    refine ⟨fa ++ f1, f2, ?_, ?_⟩
    · have := Ows.cons r o
      rw [List.append_assoc]
      exact this
    · rw [List.append_assoc]
      exact (List.append_sublist_append_left fa).mpr sl
/-- xs.append(e), xs a name -/
def mApp (i : Nat) (m : EM) : EM := fun st => match gt st i with
  | some (.lst true _) => match m st with
    | some (d, st1) => match gt st1 i with
      | some (.lst true ds) => if ds.length < 16777216 then some (.non, pt st1 i (some (.lst true (ds ++ [d])))) else none
      | _ => none
    | none => none
  | _ => none
theorem szlt {n : Nat} (h : n < 16777216) : n < sizeLine := by rw [sizeLine_eq]; exact h
theorem ow_own {K : PySem.W.Frag} {B F H : Hp} {ds : List D} {v : V} {f : List Addr} (h : Ow K B F H (.lst true ds) v f) : ∃ a vs fs, v = .ref a ∧ f = a :: fs ∧ H a = some (.lst vs) ∧ F a = none ∧ B a = none ∧ Ows K B F H ds vs fs := by
  cases h with
  | imm r => cases r
  | lst a b c r => exact ⟨_, _, _, rfl, rfl, a, b, c, r⟩
theorem j_app {i : Nat} {x : Expr} {apos cpos : Pos} (hx : PE X x (tVar i)) (he : ME X e m) (hbase : attributeBase x "append" X.env (eval x X.env) = eval x X.env := by rfl)
    (hfew : ((backTo cpos (starEach [e] X.env)).all (fun x => !x.1) && (backToKw cpos (keywordEach [] X.env)).all (fun x => x.1.isSome)
      && decide ([e].length + ([] : List Keyword).length + (if ([] : List Keyword).isEmpty then 0 else 1) < 30)) = true := by rfl)
    (hline : (apos.endLine == cpos.line) = true := by rfl) (hs : starEach [e] X.env = (false, eval e X.env) :: starEach [] X.env := by rfl) (hplain : (backTo cpos (starEach [] X.env)).any (·.1) = false := by rfl) :
    ME X (.Call (.Attribute x "append" apos) [e] [] cpos) (mApp i m) :=
  PE.mono (pe_bm PySem.F.plainAttrs_list PySem.F.slot_list_append PySem.F.type_list_append mt_append hx (pa_cons he pa_nil hs) hbase hfew hline hs hplain) fun σ H Q ⟨B, F, st, fp, d0, st', s, em, k⟩ => by
  unfold mApp at em
  split at em
  · rename_i ds0 q0
    split at em
    · rename_i d st1 q1
      split at em
      · rename_i ds q2
        split at em
        · rename_i hz
          cases em
          obtain ⟨v0, e0, w0⟩ := s.slot q0
          obtain ⟨a0, vs0, fs0, rfl, _, h0, _⟩ := ow_own w0
          refine ⟨.ref a0, e0, .inl ⟨rfl, _, SqL.of h0⟩, B, F, st, fp, d, st1, s, q1, fun v H1 F1 fp1 fv g1 s1 r1 => ?_⟩
          obtain ⟨v1, e1, w1⟩ := s1.slot q2
          rw [e0] at e1
          cases e1
          obtain ⟨a, vs, fs, e2, ef, h2, n1, n2, ows⟩ := ow_own w1
          cases e2
          have nd := s1.nd i
          rw [ef, List.nodup_cons] at nd
          have disj : ∀ x ∈ a0 :: fs, x ∉ fv := fun x hx => r1.ap i x (by rw [ef]; exact hx)
          have mm := Ow.mem d v fv r1.ow
          refine ⟨a0, vs, v, rfl, rfl, h2, szlt (by rw [← ows.length]; exact hz), ?_⟩
          have s2 := s1.poke (i := i) (c := a0) (d := .lst true (ds ++ [d])) (ho := .lst (vs ++ [v])) (f := a0 :: (fs ++ (fv ++ []))) e0 n1 n2 (fun j hj z => hj (s1.dj j i a0 z (by rw [ef]; exact List.mem_cons_self))) ?_ ?_ ?_
          · exact k _ _ F1 _ [] g1 s2 (RV.imm .non)
          · refine .lst upd_same n1 n2 (Ows.append (ows.frame (.refl _) ds vs fs (fun x hx => upd_ne fun z => nd.1 (z ▸ hx)) (fun x hx => (s1.hold (i := i) (by rw [ef]; exact List.mem_cons_of_mem _ hx)).2.1) fun x hx => (s1.hold (i := i) (by rw [ef]; exact List.mem_cons_of_mem _ hx)).2.2) (.cons (r1.ow.frame (.refl _) d v fv (fun x hx => upd_ne fun z => disj x (by rw [z]; exact List.mem_cons_self) hx) (fun x hx => (mm x hx).2.1) fun x hx => (mm x hx).2.2) .nil))
          · rw [List.append_nil, List.nodup_cons]
            refine ⟨fun z => ?_, ?_⟩
            · rcases List.mem_append.mp z with z | z
              · exact nd.1 z
              · exact disj a0 List.mem_cons_self z
            · rw [List.nodup_append]
              exact ⟨nd.2, r1.nd, fun x hx y hy e => disj x (List.mem_cons_of_mem _ hx) (e ▸ hy)⟩
          · intro j hj x hx z
            rw [List.append_nil] at z
            rcases List.mem_cons.mp z with z | z
            · exact hj (s1.dj j i x hx (by rw [ef, z]; exact List.mem_cons_self))
            · rcases List.mem_append.mp z with z | z
              · exact hj (s1.dj j i x hx (by rw [ef]; exact List.mem_cons_of_mem _ z))
              · exact r1.ap j x hx z
        · cases em
      · cases em
    · cases em
  · cases em
end
end MP

/-! MP6: targets, loops, comprehensions. -/
namespace MP
open PySem L2

/-! ### targets -/
abbrev GM := D → S → Option S
def tG (K : PySem.W.Frag) (n : Nat) (pn : List Nat) (m : GM) : TG := fun v σ H Q => ∃ B F st fp d st', SR K B F H st σ fp ∧ st.length = n ∧ Rp K F d v ∧ m d st = some st' ∧ ∀ σ' fp', SR K B F H st' σ' fp' → (∀ i ∈ pn, σ'[i]? = σ[i]?) → st'.length = n → Q σ' H
abbrev GMs := List D → S → Option S
def tGs (K : PySem.W.Frag) (n : Nat) (pn : List Nat) (m : GMs) : TGs := fun vs σ H Q => ∃ B F st fp ds st', SR K B F H st σ fp ∧ st.length = n ∧ Rps K F ds vs ∧ m ds st = some st' ∧ ∀ σ' fp', SR K B F H st' σ' fp' → (∀ i ∈ pn, σ'[i]? = σ[i]?) → st'.length = n → Q σ' H
abbrev GE (X : Cx) (pn : List Nat) (e : Expr) (m : GM) : Prop := PG X e (tG X.K X.N.length pn m)
abbrev GEs (X : Cx) (pn : List Nat) (e : List Expr) (m : GMs) : Prop := PGs X e (tGs X.K X.N.length pn m)
theorem PG.mono {X : Cx} {e : Expr} {t t' : TG} (h : PG X e t) (k : ∀ v σ H Q, t' v σ H Q → t v σ H Q) : PG X e t' := ⟨fun pins s σ H v u Q I r q => h.run pins s σ H v u Q I r (k v σ H Q q)⟩
theorem PGs.mono {X : Cx} {e : List Expr} {t t' : TGs} (h : PGs X e t) (k : ∀ v σ H Q, t' v σ H Q → t v σ H Q) : PGs X e t' := ⟨fun pins s σ H v u Q I r q => h.run pins s σ H v u Q I r (k v σ H Q q)⟩
def gNm (i : Nat) : GM := fun d st => some (pt st i (some d))
def gTp (ms : GMs) : GM := fun d st => match d with
  | .tup ds => ms ds st
  | _ => none
def gNi : GMs := fun ds st => match ds with
  | [] => some st
  | _ :: _ => none
def gCo (m : GM) (ms : GMs) : GMs := fun ds st => match ds with
  | d :: r => match m d st with
    | some st1 => ms r st1
    | none => none
  | [] => none
section
variable {X : Cx} {pn : List Nat} {e : Expr} {es : List Expr} {m : GM} {ms : GMs} {pos : Pos}
theorem g_nm {i : Nat} {x : Str} (hN : X.N.Nodup) (hi : X.N[i]? = some x) (hx : Loc X.env.scope x) (hp : pn.contains i = false := by rfl) (hf : X.fn x = true ∨ X.env.scope.names.lookup x = some .local := by first | exact .inl rfl | exact .inr rfl | assumption) :
    GE X pn (.Name x pos) (gNm i) := PG.mono (pg_name hN hi hx hf) fun v σ H Q ⟨B, F, st, fp, d, st', s, hl, r, em, k⟩ => by
  cases em
  exact k _ _ (s.put (by rw [hl]; exact (List.getElem?_eq_some_iff.mp hi).1) (RV.imm r)) (set_ne hp) (by rw [pt_length]; exact hl)
theorem g_nil : GEs X pn [] gNi := PGs.mono pgs_nil fun vs σ H Q ⟨B, F, st, fp, ds, st', s, hl, r, em, k⟩ => by
  cases r with
  | nil => cases em; exact ⟨rfl, k σ fp s (fun _ _ => rfl) hl⟩
  | cons a b => cases em
theorem g_co (h1 : GE X pn e m) (h2 : GEs X pn es ms) (hs : (assignEach (e :: es) X.env).map (·.2) = assign e X.env :: (assignEach es X.env).map (·.2) := by rfl) : GEs X pn (e :: es) (gCo m ms) := PGs.mono (pgs_cons h1 h2 hs) fun vs σ H Q ⟨B, F, st, fp, ds, st', s, hl, r, em, k⟩ => by
  cases r with
  | nil => cases em
  | cons a b =>
    have em : (match m _ st with | some st1 => ms _ st1 | none => none) = some st' := em
    split at em
    · rename_i st1 q
      exact ⟨_, _, rfl, B, F, st, fp, _, st1, s, hl, a, q, fun σ1 fp1 s1 p1 l1 => ⟨B, F, st1, fp1, _, st', s1, l1, b, em, fun σ' fp' s' p' l' => k σ' fp' s' (fun i hi => (p' i hi).trans (p1 i hi)) l'⟩⟩
    · cases em
/-- how many items a target of several takes -/
structure Many (ms : GMs) (n : Nat) : Prop where
  len : ∀ ds st st', ms ds st = some st' → ds.length = n
theorem many_ni : Many gNi 0 := ⟨fun ds st st' h => by cases ds with | nil => rfl | cons a b => cases h⟩
theorem many_co {n : Nat} (h : Many ms n) : Many (gCo m ms) (n + 1) := ⟨fun ds st st' q => by
  cases ds with
  | nil => cases q
  | cons a b =>
    have q : (match m a st with | some st1 => ms b st1 | none => none) = some st' := q
    split at q
    · rw [List.length_cons, h.len b _ _ q]
    · cases q⟩
theorem g_tp {k n : Nat} (hc : X.calm = true) (h : GEs X pn es ms) (hm : Many ms n) (hn : (assignEach es X.env).length = n := by rfl) (hst : (assignEach es X.env).findIdx? (·.1) = none := by rfl) : GE X pn (.Tuple es k pos) (gTp ms) :=
  PG.mono (pg_tup hc h hn hst) fun v σ H Q ⟨B, F, st, fp, d, st', s, hl, r, em, k⟩ => by
  cases d with
  | tup ds =>
    cases r with
    | tup sq rs => exact ⟨_, _, rfl, s.fh.sqT sq, by rw [← rs.length]; exact hm.len ds st st' em, B, F, st, fp, ds, st', s, hl, rs, em, k⟩
  | _ => cases em
/-- target = value -/
def mAs (g : GM) (m : EM) : SM := fun st => match m st with
  | some (d, st1) => match g d st1 with
    | some st2 => some (.nx, st2)
    | none => none
  | none => none
theorem s_asg {tg : Expr} {v : EM} (he : VE X e v) (hg : GE X pn tg m) (hs : swapsWithSole [tg] e pos.line X.env = pure false := by rfl) (hw : swappedStores [tg] e X.env = pure none := by rfl)
    (h1 : (assignEach [tg] X.env).map (·.2) = [assign tg X.env] := by rfl) : SE X pn (.Assign [tg] e pos) (mAs m v) := PS.mono (ps_asg he hg hs hw h1) fun D σ H ⟨B, F, st, fp, fl, st', s, hl, em, k⟩ => by
  unfold mAs at em
  split at em
  · rename_i d st1 q1
    split at em
    · rename_i st2 q2
      cases em
      exact ⟨B, F, st, fp, d, st1, s, q1, fun x H1 F1 fp1 g1 s1 r1 => ⟨B, F1, st1, fp1, d, _, s1, by rw [s1.len, ← s.len]; exact hl, r1, q2, fun σ' fp' s' p' l' => k σ' H1 F1 fp' g1 s' p' l'⟩⟩
    · cases em
  · cases em
end

/-! ### what is walked -/
abbrev IM := S → Option (List D × S)
/-- the walk yields these data, whatever is laid meanwhile -/
structure Itd (K : PySem.W.Frag) (F : Hp) (ds : List D) (J : It) : Prop where
  go : ∀ F' H, Same F F' → Same F' H → ∀ i, i < ds.length → J.go i H
  stop : ∀ F' H, Same F F' → Same F' H → J.stop ds.length H
  yld : ∀ F' H, Same F F' → Same F' H → ∀ i d x H', ds[i]? = some d → J.yld i H x H' → Same H H' ∧ ∃ F2, Same F' F2 ∧ (∀ a, H a ≠ none → F2 a = F' a) ∧ Same F2 H' ∧ Rp K F2 d x
def tI (K : PySem.W.Frag) (m : IM) : TI := fun σ H R => ∃ B F st fp ds st', SR K B F H st σ fp ∧ m st = some (ds, st') ∧ ∀ J H' F' fp', Gr B F F' → SR K B F' H' st' σ fp' → Itd K F' ds J → R J H'
abbrev IE (X : Cx) (tg iter : Expr) (m : IM) : Prop := PI X tg iter (tI X.K m)
theorem PI.mono {X : Cx} {tg e : Expr} {t t' : TI} (h : PI X tg e t) (k : ∀ σ H R, t' σ H R → t σ H R) : PI X tg e t' := ⟨fun pins s σ H R I q => h.run pins s σ H R I (k σ H R q)⟩
/-- a list or a tuple -/
def iSeq (K : PySem.W.Frag) (tl : TE) : TI := fun σ H R => tl σ H fun x H1 => ∃ a, x = .ref a ∧ ((∃ xs, SqL K H1 a xs ∧ R (Itl K a) H1) ∨ ∃ xs, SqT K H1 a xs ∧ R (Itt K a) H1)
theorem pi_seq {X : Cx} {tg l : Expr} {tl : TE} (hl : PE X l tl) : PI X tg l (iSeq X.K tl) := by
  refine ⟨fun pins s σ H R I h => ?_⟩
  refine thn (hl.run pins s σ H _ I h) fun v s1 ⟨x, H1, I1, r1, q1⟩ => ?_
  obtain ⟨a, e, q⟩ := q1
  subst e
  obtain rfl : v = Value.ref a := r1
  rcases q with ⟨xs, hq, q⟩ | ⟨xs, hq, q⟩
  · obtain ⟨its, rv, p, hz⟩ := I1.list hq
    refine wpAny_pyIter_list p.isList ?_
    refine ⟨s1.heap.objs.size, [s1.heap.objs.size], _, _, H1, rfl, I1.kept (t' := s1.toks) fun b o e => Heap.get?_push_of_some _ e, turn_list a _, ⟨_, Heap.get?_push_size _ rfl, rfl, rfl⟩, fun b hb => ?_, q⟩
    have e : b = s1.heap.objs.size := by simpa using hb
    subst e
    exact I1.fpOk (Nat.le_refl _) (I1.hok.fresh (Nat.le_refl _))
  · obtain ⟨its, rv, p, hz⟩ := I1.tuple hq
    refine wpAny_pyIter_tuple (show s1.heap.IsTuple a its.toArray from p) ?_
    refine ⟨s1.heap.objs.size, [s1.heap.objs.size], _, _, H1, rfl, I1.kept (t' := s1.toks) fun b o e => Heap.get?_push_of_some _ e, turn_tuple a _, ⟨_, Heap.get?_push_size _ rfl, rfl, rfl⟩, fun b hb => ?_, q⟩
    have e : b = s1.heap.objs.size := by simpa using hb
    subst e
    exact I1.fpOk (Nat.le_refl _) (I1.hok.fresh (Nat.le_refl _))
theorem itd_l {K : PySem.W.Frag} {F : Hp} {ds : List D} {a : Addr} {vs : List V} (h : SqL K F a vs) (r : Rps K F ds vs) : Itd K F ds (Itl K a) where
  go := fun F' H f h' i hi => by
    obtain ⟨v, e, _⟩ := r.get (List.getElem?_eq_getElem hi)
    exact ⟨vs, v, h'.seq (f.seq h), e⟩
  stop := fun F' H f h' => ⟨vs, h'.seq (f.seq h), by rw [r.length]; exact Nat.le_refl _⟩
  yld := fun F' H f h' i d x H' e y => by
    obtain ⟨rfl, y⟩ := y
    obtain ⟨v, e2, rv⟩ := r.get e
    have := (y vs (h'.seq (f.seq h))).symm.trans e2
    cases this
    exact ⟨.refl _, F', .refl _, fun _ _ => rfl, h', Rp.mono f _ _ rv⟩
theorem itd_t {K : PySem.W.Frag} {F : Hp} {ds : List D} {a : Addr} {vs : List V} (h : SqT K F a vs) (r : Rps K F ds vs) : Itd K F ds (Itt K a) where
  go := fun F' H f h' i hi => by
    obtain ⟨v, e, _⟩ := r.get (List.getElem?_eq_getElem hi)
    exact ⟨vs, v, h'.sqT (f.sqT h), e⟩
  stop := fun F' H f h' => ⟨vs, h'.sqT (f.sqT h), by rw [r.length]; exact Nat.le_refl _⟩
  yld := fun F' H f h' i d x H' e y => by
    obtain ⟨rfl, y⟩ := y
    obtain ⟨v, e2, rv⟩ := r.get e
    have := (y vs (h'.sqT (f.sqT h))).symm.trans e2
    cases this
    exact ⟨.refl _, F', .refl _, fun _ _ => rfl, h', Rp.mono f _ _ rv⟩
def wSq (m : EM) : IM := fun st => match m st with
  | some (d, st1) => match itemsOf d with
    | some ds => some (ds, st1)
    | none => none
  | none => none
section
variable {X : Cx} {pn : List Nat} {e a b tg : Expr} {m : EM} {pos p : Pos} {o o1 o2 : OM}
theorem rp_items {K : PySem.W.Frag} {F : Hp} {d : D} {v : V} {ds : List D} (r : Rp K F d v) (h : itemsOf d = some ds) : ∃ a vs, v = .ref a ∧ (SqL K F a vs ∨ SqT K F a vs) ∧ Rps K F ds vs := by
  cases r with
  | tup s r => cases h; exact ⟨_, _, rfl, .inr s, r⟩
  | lst s r => cases h; exact ⟨_, _, rfl, .inl (SqL.of s), r⟩
  | fro s r => cases h; exact ⟨_, _, rfl, .inl s, r⟩
  | _ => cases h
theorem w_sq (h : VE X e m) : IE X tg e (wSq m) := PI.mono (pi_seq h) fun σ H R ⟨B, F, st, fp, ds, st', s, em, k⟩ => by
  unfold wSq at em
  split at em
  · rename_i d st1 q1
    split at em
    · rename_i ds' q2
      cases em
      refine ⟨B, F, st, fp, d, _, s, q1, fun v H1 F1 fp1 g1 s1 r1 => ?_⟩
      obtain ⟨a, vs, rfl, q, rs⟩ := rp_items r1 q2
      refine ⟨a, rfl, ?_⟩
      rcases q with q | q
      · exact .inl ⟨vs, s1.fh.seq q, k _ H1 F1 fp1 g1 s1 (itd_l q rs)⟩
      · exact .inr ⟨vs, s1.fh.sqT q, k _ H1 F1 fp1 g1 s1 (itd_t q rs)⟩
    · cases em
  · cases em
/-! range -/
def rngD (lo : Int) (n : Nat) : List D := (List.range n).map fun (i : Nat) => .int (lo + i)
theorem rngD_at {lo : Int} {n i : Nat} {d : D} (h : (rngD lo n)[i]? = some d) : i < n ∧ d = .int (lo + i) := by
  unfold rngD at h
  rw [List.getElem?_map] at h
  obtain ⟨j, e1, e2⟩ := Option.map_eq_some_iff.mp h
  obtain ⟨h1, h2⟩ := List.getElem?_eq_some_iff.mp e1
  rw [List.length_range] at h1
  rw [List.getElem_range] at h2
  subst h2
  exact ⟨h1, e2.symm⟩
theorem rngD_len (lo : Int) (n : Nat) : (rngD lo n).length = n := by unfold rngD; rw [List.length_map, List.length_range]
theorem itd_r {K : PySem.W.Frag} {F : Hp} {lo : Int} {n : Nat} : Itd K F (rngD lo n) (Itr lo n) where
  go := fun F' H f h' i hi => by rw [rngD_len] at hi; exact hi
  stop := fun F' H f h' => by rw [rngD_len]; exact Nat.le_refl n
  yld := fun F' H f h' i d x H' e y => by
    obtain ⟨rfl, rfl⟩ := y
    obtain ⟨_, rfl⟩ := rngD_at e
    exact ⟨.refl _, F', .refl _, fun _ _ => rfl, h', .int _⟩
def wR1 (m : EM) : IM := fun st => match m st with
  | some (.int j, st1) => if -4611686018427387904 ≤ j ∧ j < 4611686018427387904 then some (rngD 0 j.toNat, st1) else none
  | _ => none
def wR2 (m n : EM) : IM := fun st => match m st with
  | some (.int i, st1) => match n st1 with
    | some (.int j, st2) => if (-4611686018427387904 ≤ i ∧ i < 4611686018427387904) ∧ -4611686018427387904 ≤ j ∧ j < 4611686018427387904 then some (rngD i (j - i).toNat, st2) else none
    | _ => none
  | _ => none
theorem w_r1 (hg : Gl X "range") (hm : X.mg "range" = none) (h : VE X a m) (hs : starEach [a] X.env = [(false, eval a X.env)] := by rfl) : IE X tg (.Call (.Name "range" p) [a] [] pos) (wR1 m) :=
  PI.mono (pi_range1 hg hm (pa_cons h pa_nil (by rw [hs]; rfl)) hs) fun σ H R ⟨B, F, st, fp, ds, st', s, em, k⟩ => by
  unfold wR1 at em
  split at em
  · rename_i j st1 q1
    split at em
    · rename_i hj
      cases em
      refine ⟨B, F, st, fp, _, _, s, q1, fun v H1 F1 fp1 g1 s1 r1 => ?_⟩
      cases r1
      exact ⟨j, rfl, hj.1, hj.2, k _ H1 F1 fp1 g1 s1 itd_r⟩
    · cases em
  · cases em
theorem w_r2 {n : EM} (hg : Gl X "range") (hm : X.mg "range" = none) (h : VE X a m) (h2 : VE X b n) (hs : starEach [a, b] X.env = [(false, eval a X.env), (false, eval b X.env)] := by rfl) (hs2 : starEach [b] X.env = [(false, eval b X.env)] := by rfl) :
    IE X tg (.Call (.Name "range" p) [a, b] [] pos) (wR2 m n) :=
  PI.mono (pi_range2 hg hm (pa_cons h (pa_cons h2 pa_nil (by rw [hs2]; rfl)) (by rw [hs, hs2])) hs hs2) fun σ H R ⟨B, F, st, fp, ds, st', s, em, k⟩ => by
  unfold wR2 at em
  split at em
  · rename_i i st1 q1
    split at em
    · rename_i j st2 q2
      split at em
      · rename_i hj
        cases em
        refine ⟨B, F, st, fp, _, st1, s, q1, fun v H1 F1 fp1 g1 s1 r1 => ⟨B, F1, st1, fp1, _, _, s1, q2, fun w H2 F2 fp2 g2 s2 r2 => ?_⟩⟩
        cases r1
        cases r2
        exact ⟨i, j, rfl, ⟨hj.1.1, hj.1.2, hj.2.1, hj.2.2⟩, k _ H2 F2 fp2 (g1.trans g2) s2 itd_r⟩
      · cases em
    · cases em
  · cases em

/-! ### for -/
def forGo (tg : GM) (body : SM) : List D → SM
  | [], st => some (.nx, st)
  | d :: ds, st => match tg d st with
    | some st1 => match body st1 with
      | some (.nx, st2) => forGo tg body ds st2
      | some (.ct, st2) => forGo tg body ds st2
      | some (.bk, st2) => some (.nx, st2)
      | some (.rt x, st2) => some (.rt x, st2)
      | none => none
    | none => none
def mFor (it : IM) (tg : GM) (body : SM) : SM := fun st => match it st with
  | some (ds, st1) => forGo tg body ds st1
  | none => none
theorem s_for {iter : Expr} {body : List Stmt} {it : IM} {g : GM} {bm : SM} (hp : PassesOwn (model X.prog X.w) X.A X.env X.xe) (hc : X.calm = true) (hi : IE X tg iter it) (hg : GE X pn tg g) (hb : BS X pn body bm)
    (hs : ∀ x, foldedSetIterable iter X.env x = pure x := by intro _; rfl) : SE X pn (.For tg iter body [] pos) (mFor it g bm) := PS.mono (ps_for hp hc hi hg hb hs) fun D σ H ⟨B, F, st, fp, fl, st', s, hl, em, k⟩ => by
  unfold mFor at em
  split at em
  · rename_i ds st1 q1
    refine ⟨B, F, st, fp, ds, st1, s, q1, fun J H1 F1 fp1 g1 s1 itd => ?_⟩
    have l1 : st1.length = X.N.length := by rw [s1.len, ← s.len]; exact hl
    refine ⟨fun i m σ2 H2 => ∃ F2 st2 fp2, SR X.K B F2 H2 st2 σ2 fp2 ∧ Gr B F1 F2 ∧ (∀ j ∈ pn, σ2[j]? = σ[j]?) ∧ st2.length = X.N.length ∧ i ≤ ds.length ∧ m = ds.length - i ∧ forGo g bm (ds.drop i) st2 = some (fl, st'),
      ⟨ds.length, F1, st1, fp1, s1, .refl, fun _ _ => rfl, l1, Nat.zero_le _, rfl, by rw [List.drop_zero]; exact em⟩, ?_⟩
    rintro i m σ2 H2 ⟨F2, st2, fp2, s2, g2, p2, l2, hi2, rfl, em2⟩
    by_cases hlt : i < ds.length
    · have ed : ds[i]? = some ds[i] := List.getElem?_eq_getElem hlt
      rw [List.drop_eq_getElem_cons hlt] at em2
      unfold forGo at em2
      split at em2
      · rename_i st3 q3
        refine .inr ⟨itd.go F2 H2 g2.ex s2.fh i hlt, fun σ4 H4 => ∃ F4 st4 fp4, SR X.K B F4 H4 st4 σ4 fp4 ∧ Gr B F1 F4 ∧ (∀ j ∈ pn, σ4[j]? = σ[j]?) ∧ st4.length = X.N.length ∧ forGo g bm (ds.drop (i + 1)) st4 = some (fl, st'),
          fun σ4 H4 ⟨F4, st4, fp4, s4, g4, p4, l4, em4⟩ => ⟨ds.length - (i + 1), by omega, F4, st4, fp4, s4, g4, p4, l4, by omega, rfl, em4⟩, fun x H' y => ?_⟩
        obtain ⟨sh, F3, sf, at3, fh3, rx⟩ := itd.yld F2 H2 g2.ex s2.fh i _ x H' ed y
        have s3 := s2.grow sh sf at3 fh3
        have g3 : Gr B F1 F3 := g2.trans (.of s2 sf at3)
        refine ⟨B, F3, st2, fp2, _, st3, s3, l2, rx, q3, fun σ5 fp5 s5 p5 l5 => ?_⟩
        have pp : ∀ j ∈ pn, σ5[j]? = σ[j]? := fun j hj => (p5 j hj).trans (p2 j hj)
        split at em2
        · rename_i st6 q6
          exact ⟨B, F3, st3, fp5, .nx, st6, s5, l5, q6, fun σ7 H7 F7 fp7 g7 s7 p7 l7 => ⟨F7, st6, fp7, s7, g3.trans g7, fun j hj => (p7 j hj).trans (pp j hj), l7, em2⟩⟩
        · rename_i st6 q6
          exact ⟨B, F3, st3, fp5, .ct, st6, s5, l5, q6, fun σ7 H7 F7 fp7 g7 s7 p7 l7 => ⟨F7, st6, fp7, s7, g3.trans g7, fun j hj => (p7 j hj).trans (pp j hj), l7, em2⟩⟩
        · rename_i st6 q6
          cases em2
          exact ⟨B, F3, st3, fp5, .bk, _, s5, l5, q6, fun σ7 H7 F7 fp7 g7 s7 p7 l7 => k σ7 H7 F7 fp7 (g1.trans (g3.trans g7)) s7 (fun j hj => (p7 j hj).trans (pp j hj)) l7⟩
        · rename_i d6 st6 q6
          cases em2
          exact ⟨B, F3, st3, fp5, .rt d6, _, s5, l5, q6, fun σ7 H7 F7 fp7 g7 s7 p7 l7 => k σ7 H7 F7 fp7 (g1.trans (g3.trans g7)) s7 (fun j hj => (p7 j hj).trans (pp j hj)) l7⟩
        · cases em2
      · cases em2
    · have e : i = ds.length := by omega
      subst e
      rw [List.drop_length] at em2
      cases em2
      exact .inl ⟨itd.stop F2 H2 g2.ex s2.fh, k σ2 H2 F2 fp2 (g1.trans g2) s2 p2 l2⟩
  · cases em

/-! ### while -/
def whGo (t : TM) (body : SM) : Nat → SM
  | 0, _ => none
  | n + 1, st => match t st with
    | some (false, st1) => some (.nx, st1)
    | some (true, st1) => match body st1 with
      | some (.nx, st2) => whGo t body n st2
      | some (.ct, st2) => whGo t body n st2
      | some (.bk, st2) => some (.nx, st2)
      | some (.rt x, st2) => some (.rt x, st2)
      | none => none
    | none => none
/-- more turns than any while takes -/
def wMax : Nat := 1099511627776
def mWh (t : TM) (body : SM) : SM := fun st => whGo t body wMax st
theorem s_while {c : Expr} {body : List Stmt} {t : TM} {bm : SM} (hp : PassesOwn (model X.prog X.w) X.A X.env X.xe) (hc : BE X c t) (hb : BS X pn body bm) : SE X pn (.While c body [] pos) (mWh t bm) := PS.mono (ps_while hp hc hb) fun D σ H ⟨B, F, st, fp, fl, st', s, hl, em, k⟩ => by
  refine ⟨fun m σ2 H2 => ∃ F2 st2 fp2, SR X.K B F2 H2 st2 σ2 fp2 ∧ Gr B F F2 ∧ (∀ j ∈ pn, σ2[j]? = σ[j]?) ∧ st2.length = X.N.length ∧ whGo t bm m st2 = some (fl, st'), ⟨wMax, F, st, fp, s, .refl, fun _ _ => rfl, hl, em⟩, ?_⟩
  rintro m σ2 H2 ⟨F2, st2, fp2, s2, g2, p2, l2, em2⟩
  cases m with
  | zero => cases em2
  | succ m =>
    unfold whGo at em2
    split at em2
    · rename_i st3 q3
      cases em2
      refine ⟨B, F2, st2, fp2, false, _, s2, q3, fun H3 F3 fp3 g3 s3 => ?_⟩
      exact iteF (k σ2 H3 F3 fp3 (g2.trans g3) s3 p2 (by rw [s3.len, ← s2.len]; exact l2))
    · rename_i st3 q3
      refine ⟨B, F2, st2, fp2, true, st3, s2, q3, fun H3 F3 fp3 g3 s3 => ?_⟩
      have l3 : st3.length = X.N.length := by rw [s3.len, ← s2.len]; exact l2
      refine iteT ⟨fun σ4 H4 => ∃ F4 st4 fp4, SR X.K B F4 H4 st4 σ4 fp4 ∧ Gr B F F4 ∧ (∀ j ∈ pn, σ4[j]? = σ[j]?) ∧ st4.length = X.N.length ∧ whGo t bm m st4 = some (fl, st'), fun σ4 H4 h4 => ⟨m, Nat.lt_succ_self m, h4⟩, ?_⟩
      split at em2
      · rename_i st6 q6
        exact ⟨B, F3, st3, fp3, .nx, st6, s3, l3, q6, fun σ7 H7 F7 fp7 g7 s7 p7 l7 => ⟨F7, st6, fp7, s7, g2.trans (g3.trans g7), fun j hj => (p7 j hj).trans (p2 j hj), l7, em2⟩⟩
      · rename_i st6 q6
        exact ⟨B, F3, st3, fp3, .ct, st6, s3, l3, q6, fun σ7 H7 F7 fp7 g7 s7 p7 l7 => ⟨F7, st6, fp7, s7, g2.trans (g3.trans g7), fun j hj => (p7 j hj).trans (p2 j hj), l7, em2⟩⟩
      · rename_i st6 q6
        cases em2
        exact ⟨B, F3, st3, fp3, .bk, _, s3, l3, q6, fun σ7 H7 F7 fp7 g7 s7 p7 l7 => k σ7 H7 F7 fp7 (g2.trans (g3.trans g7)) s7 (fun j hj => (p7 j hj).trans (p2 j hj)) l7⟩
      · rename_i d6 st6 q6
        cases em2
        exact ⟨B, F3, st3, fp3, .rt d6, _, s3, l3, q6, fun σ7 H7 F7 fp7 g7 s7 p7 l7 => k σ7 H7 F7 fp7 (g2.trans (g3.trans g7)) s7 (fun j hj => (p7 j hj).trans (p2 j hj)) l7⟩
      · cases em2
    · cases em2
end
end MP

/-! MP7: enumerate, zip; comprehensions. -/
namespace MP
open PySem L2

/-! ### enumerate of a tuple -/
theorem meets_enumerate_new1 {v : Value} {o : Obj} {H : Heap → Prop} (B : Begins v o H) :
    Meets (Builtin.«enumerate.__new__» ⟨[.type "enumerate", v], []⟩) (fun _ R s => H s.heap ∧
      R (.ok (.ret (.ref (s.heap.push o).objs.size))) { s with heap := (s.heap.push o).push { cls := .type "enumerate", data := .fields #[.none, .bool false, .ref s.heap.objs.size, rawInt 0, .none, .none] } }) :=
  .of_wp fun prog w A R s h => by
    obtain ⟨hp, g, d, tk, os⟩ := s; obtain ⟨h1, h⟩ := h
    have hsub := sub_enumerate
    have q1 : ∀ {A' : Around} {E : Value → Shared → Prop} {Q : Value → Shared → Prop}, Q (.ref hp.objs.size) ⟨hp.push o, g, d, tk, os⟩ → wpAny (model prog w) A' (pyIter v) Q E ⟨hp, g, d, tk, os⟩ :=
      fun q => B.iter prog w _ _ ⟨hp, g, d, tk, os⟩ _ h1 q
    wp_walk using q1
    refine wpAny_stack_any fun st => wpAny_pure ?_
    split
    · rename_i c _ _ _ _ _
      cases (c == Value.type "enumerate")
      · wp_walk using q1
        exact ⟨_, rfl, h⟩
      · wp_walk using q1
        exact ⟨_, rfl, h⟩
    · wp_walk using q1
      exact ⟨_, rfl, h⟩
theorem enum_begins1 {prog : Program} {w : World} {A : Around} {E : Value → Shared → Prop} {s : Shared} {v : Value} {o : Obj} {H : Heap → Prop} {Q : Value → Shared → Prop} (B : Begins v o H) (h1 : H s.heap)
    (h : ∀ h', IsEnum h' (s.heap.objs.size + 1) s.heap.objs.size 0 .none → h'.get? s.heap.objs.size = some o → h'.objs.size = s.heap.objs.size + 2 →
      (∀ b o, s.heap.get? b = some o → h'.get? b = some o) → Q (.ref (s.heap.objs.size + 1)) { s with heap := h' }) :
    wpAny (model prog w) A (call (.type "enumerate") [v]) Q E s := by
  refine callType_new F.called_enumerate (by decide) (F.typeCall_enumerate_1 _) (F.newCall_enumerate_1 _) (fun obj => F.args_object_init_2 obj _) F.entry_enumerate_new
    (meets_enumerate_new1 B) ⟨h1, ?_⟩
  have hz : (s.heap.push o).objs.size = s.heap.objs.size + 1 := Heap.size_push ..
  show _ ∧ _
  rw [hz]
  have he : IsEnum ((s.heap.push o).push { cls := .type "enumerate", data := .fields #[.none, .bool false, .ref s.heap.objs.size, rawInt 0, .none, .none] }) (s.heap.objs.size + 1) s.heap.objs.size 0 .none := by
    have := Heap.get?_push_size (s.heap.push o) (o := { cls := .type "enumerate", data := .fields #[.none, .bool false, .ref s.heap.objs.size, rawInt 0, .none, .none] }) rfl
    rw [hz] at this; exact this
  refine ⟨⟨_, he, rfl⟩, h _ he (Heap.get?_push_of_some _ (Heap.get?_push_size _ B.free)) (by rw [Heap.size_push, hz]) fun b o x => Heap.get?_push_of_some _ (Heap.get?_push_of_some _ x)⟩
/-- the tuple at a as it stands at each turn, each item in a new pair -/
def IteT (K : PySem.W.Frag) (a : Addr) : It :=
  ⟨fun i H => ∃ (xs : List V) (x : V), SqT K H a xs ∧ xs[i]? = some x, fun i H v H' => ∃ T x, v = .ref T ∧ H T = none ∧ H' = upd H T (.tup [.int (i : Nat), x]) ∧ ∀ xs, SqT K H a xs → xs[i]? = some x, fun i H => ∃ xs : List V, SqT K H a xs ∧ xs.length ≤ i⟩
theorem turn_enumT {P : Program} {w : World} {K : PySem.W.Frag} {elts : List Expr} {kk : Nat} {tpos : Pos} (a e it : Addr) :
    Turn P w K (.Tuple elts kk tpos) (IteT K a) [e, it] e (fun i h => (∃ old, IsEnum h e it ((i : Nat) : Int) old) ∧ h.IsTupleIter it a i ∧ e ≠ it ∧ a ≠ it ∧ a ≠ e) where
  mem := by simp
  obj := fun i h st b hb => by
    obtain ⟨⟨old, he⟩, ⟨o, ho, hc, hd⟩, _⟩ := st
    have e' : b = e ∨ b = it := by simpa using hb
    rcases e' with z | z
    · rw [z]; exact ⟨_, he, fun v q => nomatch q⟩
    · rw [z]; exact ⟨o, ho, fun v q => by rw [hd] at q; cases q⟩
  keep := fun i h h' st k => let ⟨⟨old, he⟩, hi, hne⟩ := st; ⟨⟨old, k e (by simp) _ he⟩, hi.at fun o q => k it (by simp) o q, hne⟩
  item := by
    intro X hP hw hK hc i pins s σ H E I hf st hg
    subst hP hw hK
    obtain ⟨⟨old, he⟩, hit, hne, hai, hae⟩ := st
    obtain ⟨xs, x, hq, hx⟩ := hg
    obtain ⟨its, rv, p, hz⟩ := I.tuple hq
    obtain ⟨u, hu, ru⟩ := rv.get hx
    have hel : e < s.heap.objs.size := Heap.lt_size he
    have hil : it < s.heap.objs.size := by obtain ⟨_, q, _⟩ := hit; exact Heap.lt_size q
    have hlt : i < its.toArray.size := by
      rw [List.size_toArray]
      exact (List.getElem?_eq_some_iff.mp hu).1
    refine wpAny_pyNext_enum_itemD (Draws.tuple (A := X.A.in1) (I.ok.hd hc) it a hai its.toArray) he ⟨hit, p⟩ hlt hne (by simp; exact ⟨hne, fun z => hae z.symm⟩) fun u' h' tk hP ho hit' hT hsz hk => ?_
    have eu : u' = u := by
      have h1 : its.toArray[i]? = some u := by simpa using hu
      exact Option.some.inj (hP.symm.trans h1)
    subst eu
    refine ⟨_, rfl, wpAny_letOwnedTupleGo_enum (s := { s with heap := h', toks := tk + 1 }) ho fun h'' he' sb => ?_⟩
    have hT2 : h''.get? s.heap.objs.size = some { cls := .type "tuple", data := .seq #[.int i tk, u'] } := (sb.2 _ (Nat.ne_of_gt hel)).trans hT
    have new : ObjOk X.prog X.w (upd H s.heap.objs.size (.tup [.int (i : Nat), x])) h'' s.heap.objs.size (.tup [.int (i : Nat), x]) :=
      ⟨by show 2 ≤ sizeLine; decide, [.int i tk, u'], .cons ⟨_, rfl⟩ (.cons ru .nil), ⟨_, hT2, rfl, _, rfl⟩⟩
    have I1 : Inv X pins σ (upd H s.heap.objs.size (.tup [.int (i : Nat), x])) { s with heap := h'', toks := tk + 1 } :=
      I.turnedNew (ch := [e, it]) (fun b ob hb q => (sb.2 b (fun z => hb (by simp [z]))).trans (hk b ob (fun z => hb (by simp [z])) (fun z => hb (by simp [z])) q)) hf (Nat.le_refl _) new
    refine ⟨.ref s.heap.objs.size, _, I1, rfl, ⟨_, x, rfl, I.hok.fresh (Nat.le_refl _), rfl, fun ys hy => by rw [I.tuple_inj hy hq]; exact hx⟩, ⟨⟨u', ?_⟩, hit'.1.at fun o q => (sb.2 it (Ne.symm hne)).trans q, hne, hai, hae⟩, fun b hb => ?_⟩
    · have e1 : ((i + 1 : Nat) : Int) = (i : Int) + 1 := by omega
      rw [e1]; exact he'
    · have hb' : b < s.heap.objs.size := by
        have e' : b = e ∨ b = it := by simpa using hb
        rcases e' with z | z
        · rw [z]; exact hel
        · rw [z]; exact hil
      rw [upd_ne (Nat.ne_of_lt hb')]
      exact (hf b hb).1
  done := by
    intro X hP hw hK hc i pins s σ H E I hf st hg
    subst hP hw hK
    obtain ⟨⟨old, he⟩, hit, hne, hai, hae⟩ := st
    obtain ⟨xs, hq, hx⟩ := hg
    obtain ⟨its, rv, p, hz⟩ := I.tuple hq
    obtain ⟨f0, f1, f2, f3, f4, f5⟩ := hf it (by simp)
    have hT : s.TypeIs (.ref e) "enumerate" := ⟨_, he, rfl⟩
    unfold pyNext
    refine wpAny_bind (wpAny_attempt (wpAny_callSpecial?_slot (name := Str.ofString "__next__") hT F.slot_enumerate_next
      (wpAny_call_entry F.slot_enumerate_next hT F.entry_enumerate_next ?_ (F.args_enumerate_next_1 _))))
    show wpAny _ _ (field (.ref e) 2 >>= _) _ _ _
    refine wpAny_bind (wpAny_field he rfl (x := .ref it) rfl ?_)
    refine wpAny_bind (wpAny_nextOf_tuple_end (A := X.A.in1) (I.ok.hd hc) hit p (by rw [List.getElem?_toArray, List.getElem?_eq_none]; rw [← rv.length]; exact hx) fun h' x' he' hx' => ?_)
    obtain ⟨o, ho, hcc⟩ := hx'
    refine wpAny_bind (wpAny_isInstance (T := "StopIteration") (b := true) ⟨o, ho, hcc⟩ isSubtype_stop ?_)
    exact wpAny_pure ⟨rfl, I.turned (t' := s.toks) (fun b o hb q => he' b o hb q) f0 f1 f3 f4 f5⟩
  self := fun A i s Q E st h => let ⟨⟨_, he⟩, _⟩ := st; wpAny_pyIter_enum he h
/-- enumerate of a list or a tuple -/
def iEnumA (K : PySem.W.Frag) (ta : TA) : TI := fun σ H R => ta σ H fun vs H1 => ∃ a, vs = [.ref a] ∧ ((∃ xs, SqL K H1 a xs ∧ R (Ite K a) H1) ∨ ∃ xs, SqT K H1 a xs ∧ R (IteT K a) H1)
theorem pi_enumA {X : Cx} {e : Expr} {ta : TA} {p pos tpos : Pos} {elts : List Expr} {kk : Nat} (hg : Gl X "enumerate") (hm : X.mg "enumerate" = none) (ha : PA X [e] ta) (hs : starEach [e] X.env = [(false, eval e X.env)] := by rfl) :
    PI X (.Tuple elts kk tpos) (.Call (.Name "enumerate" p) [e] [] pos) (iEnumA X.K ta) := by
  refine ⟨fun pins s σ H R I h => ?_⟩
  refine PyProof.Rows.Call_ (ld_blt I hg hm PyProof.Rows.boot_enumerate (PyProof.Rows.callWith_type1 (thn (ha.run pos pins s σ H _ I h) fun us s1 ⟨vs, H1, I1, r1, q1⟩ => ?_) hs rfl))
  obtain ⟨a, ex, q⟩ := q1
  subst ex
  obtain ⟨u1, rfl, ru⟩ := vals1 r1
  obtain rfl : u1 = Value.ref a := ru
  have fin : ∀ b : Addr, b = s1.heap.objs.size + 1 ∨ b = s1.heap.objs.size → FpOk X pins H1 b := fun b e' => by
    have hle : s1.heap.objs.size ≤ b := by
      rcases e' with z | z
      · rw [z]; exact Nat.le_add_right _ _
      · rw [z]; exact Nat.le_refl _
    exact I1.fpOk hle (I1.hok.fresh hle)
  rcases q with ⟨xs, hq, q⟩ | ⟨xs, hq, q⟩
  · obtain ⟨its, rv, p', hz⟩ := I1.list hq
    refine call_enumerate_list p'.isList fun h' he hit hsz hk => wpAny_pyIter_enum he ?_
    have I2 : Inv X pins σ H1 { s1 with heap := h' } := I1.kept (t' := s1.toks) hk
    exact ⟨s1.heap.objs.size + 1, [s1.heap.objs.size + 1, s1.heap.objs.size], _, _, H1, rfl, I2, turn_enum a (s1.heap.objs.size + 1) s1.heap.objs.size, ⟨⟨.none, he⟩, hit, Nat.succ_ne_self _⟩, fun b hb => fin b (by simpa using hb), q⟩
  · obtain ⟨its, rv, p', hz⟩ := I1.tuple hq
    refine enum_begins1 (begins_tuple a its.toArray) p' fun h' he ho hsz hk => wpAny_pyIter_enum he ?_
    have I2 : Inv X pins σ H1 { s1 with heap := h' } := I1.kept (t' := s1.toks) hk
    have hal : a < s1.heap.objs.size := p'.lt
    exact ⟨s1.heap.objs.size + 1, [s1.heap.objs.size + 1, s1.heap.objs.size], _, _, H1, rfl, I2, turn_enumT a (s1.heap.objs.size + 1) s1.heap.objs.size, ⟨⟨.none, he⟩, ⟨_, ho, rfl, rfl⟩, Nat.succ_ne_self _, Nat.ne_of_lt hal, Nat.ne_of_lt (Nat.lt_succ_of_lt hal)⟩, fun b hb => fin b (by simpa using hb), q⟩
def enumD : Nat → List D → List D
  | _, [] => []
  | i, d :: ds => .tup [.int (i : Nat), d] :: enumD (i + 1) ds
theorem enumD_len : ∀ (i : Nat) (ds : List D), (enumD i ds).length = ds.length
  | _, [] => rfl
  | i, d :: ds => by show (enumD (i + 1) ds).length + 1 = ds.length + 1; rw [enumD_len]
theorem enumD_at : ∀ {i : Nat} {ds : List D} {j : Nat} {d : D}, (enumD i ds)[j]? = some d → ∃ e, ds[j]? = some e ∧ d = .tup [.int ((i + j : Nat) : Int), e]
  | _, [], j, d, h => by simp [enumD] at h
  | i, e :: ds, 0, d, h => ⟨e, rfl, (Option.some.inj h).symm⟩
  | i, e :: ds, j + 1, d, h => by
    obtain ⟨e', h1, h2⟩ := enumD_at (i := i + 1) (ds := ds) (j := j) h
    refine ⟨e', by simpa using h1, ?_⟩
    rw [h2, show i + 1 + j = i + (j + 1) by omega]
section
variable {K : PySem.W.Frag} {F : Hp} {ds : List D} {a : Addr} {vs : List V}
theorem enum_pair {F' H : Hp} {T : Addr} {v : V} {d : D} {i : Nat} (h' : Same F' H) (hT : H T = none) (r : Rp K F' d v) :
    Same H (upd H T (.tup [.int (i : Nat), v])) ∧ ∃ F2, Same F' F2 ∧ (∀ a, H a ≠ none → F2 a = F' a) ∧ Same F2 (upd H T (.tup [.int (i : Nat), v])) ∧ Rp K F2 (.tup [.int (i : Nat), d]) (.ref T) :=
  ⟨same_new hT, upd F' T (.tup [.int (i : Nat), v]), same_new (sub_none h' hT), fun a ha => upd_ne fun z => ha (by rw [z]; exact hT), same_upd2 h', .tup (SqT.of upd_same) (.cons (.int _) (.cons (Rp.mono (same_new (sub_none h' hT)) _ _ r) .nil))⟩
theorem itd_el (h : SqL K F a vs) (r : Rps K F ds vs) : Itd K F (enumD 0 ds) (Ite K a) where
  go := fun F' H f h' i hi => by
    rw [enumD_len] at hi
    obtain ⟨v, e, _⟩ := r.get (List.getElem?_eq_getElem hi)
    exact ⟨vs, v, h'.seq (f.seq h), e⟩
  stop := fun F' H f h' => ⟨vs, h'.seq (f.seq h), by rw [enumD_len, r.length]; exact Nat.le_refl _⟩
  yld := fun F' H f h' i d x H' e y => by
    obtain ⟨T, v, rfl, hT, rfl, y⟩ := y
    obtain ⟨d', e1, rfl⟩ := enumD_at e
    obtain ⟨v', e2, rv⟩ := r.get e1
    cases (y vs (h'.seq (f.seq h))).symm.trans e2
    rw [Nat.zero_add]
    exact enum_pair h' hT (Rp.mono f _ _ rv)
theorem itd_et (h : SqT K F a vs) (r : Rps K F ds vs) : Itd K F (enumD 0 ds) (IteT K a) where
  go := fun F' H f h' i hi => by
    rw [enumD_len] at hi
    obtain ⟨v, e, _⟩ := r.get (List.getElem?_eq_getElem hi)
    exact ⟨vs, v, h'.sqT (f.sqT h), e⟩
  stop := fun F' H f h' => ⟨vs, h'.sqT (f.sqT h), by rw [enumD_len, r.length]; exact Nat.le_refl _⟩
  yld := fun F' H f h' i d x H' e y => by
    obtain ⟨T, v, rfl, hT, rfl, y⟩ := y
    obtain ⟨d', e1, rfl⟩ := enumD_at e
    obtain ⟨v', e2, rv⟩ := r.get e1
    cases (y vs (h'.sqT (f.sqT h))).symm.trans e2
    rw [Nat.zero_add]
    exact enum_pair h' hT (Rp.mono f _ _ rv)
end
def wEn (m : EM) : IM := fun st => match m st with
  | some (d, st1) => match itemsOf d with
    | some ds => some (enumD 0 ds, st1)
    | none => none
  | none => none
theorem w_en {X : Cx} {e : Expr} {m : EM} {p pos tpos : Pos} {elts : List Expr} {kk : Nat} (hg : Gl X "enumerate") (hm : X.mg "enumerate" = none) (h : VE X e m) (hs : starEach [e] X.env = [(false, eval e X.env)] := by rfl) :
    IE X (.Tuple elts kk tpos) (.Call (.Name "enumerate" p) [e] [] pos) (wEn m) := PI.mono (pi_enumA hg hm (pa_cons h pa_nil (by rw [hs]; rfl)) hs) fun σ H R ⟨B, F, st, fp, ds, st', s, em, k⟩ => by
  unfold wEn at em
  split at em
  · rename_i d st1 q1
    split at em
    · rename_i ds' q2
      cases em
      refine ⟨B, F, st, fp, d, _, s, q1, fun v H1 F1 fp1 g1 s1 r1 => ?_⟩
      obtain ⟨a, vs, rfl, q, rs⟩ := rp_items r1 q2
      refine ⟨a, rfl, ?_⟩
      rcases q with q | q
      · exact .inl ⟨vs, s1.fh.seq q, k _ H1 F1 fp1 g1 s1 (itd_el q rs)⟩
      · exact .inr ⟨vs, s1.fh.sqT q, k _ H1 F1 fp1 g1 s1 (itd_et q rs)⟩
    · cases em
  · cases em
end MP

/-! MP8: list comprehensions. -/
namespace MP
open PySem L2

/-- the slots of the block's own names forgotten -/
def wipeD (st : S) : List Nat → S
  | [] => st
  | v :: vs => pt (wipeD st vs) v none
theorem wipeD_length (st : S) : ∀ vs : List Nat, (wipeD st vs).length = st.length
  | [] => rfl
  | v :: vs => by unfold wipeD; rw [pt_length, wipeD_length st vs]
theorem wipeD_some {st : S} {i : Nat} {d : D} : ∀ {vs : List Nat}, (wipeD st vs)[i]? = some (some d) → st[i]? = some (some d) ∧ i ∉ vs
  | [], h => ⟨h, by simp⟩
  | v :: vs, h => by
    unfold wipeD at h
    by_cases hi : v = i
    · subst hi
      by_cases hv : v < (wipeD st vs).length
      · rw [pt_self hv] at h; cases h
      · rw [List.getElem?_eq_none (by rw [pt_length]; omega)] at h; cases h
    · rw [pt_ne hi] at h
      obtain ⟨h1, h2⟩ := wipeD_some h
      exact ⟨h1, by simp only [List.mem_cons, not_or]; exact ⟨fun e => hi e.symm, h2⟩⟩
theorem wipe_ne {σ : L2.St} {i : Nat} : ∀ {vs : List Nat}, i ∉ vs → (wipe σ vs)[i]? = σ[i]?
  | [], _ => rfl
  | v :: vs, h => by
    unfold wipe
    simp only [List.mem_cons, not_or] at h
    rw [List.getElem?_set_ne (Ne.symm h.1), wipe_ne h.2]
theorem wipeD_ne {st : S} {i : Nat} : ∀ {vs : List Nat}, i ∉ vs → (wipeD st vs)[i]? = st[i]?
  | [], _ => rfl
  | v :: vs, h => by
    unfold wipeD
    simp only [List.mem_cons, not_or] at h
    rw [pt_ne (Ne.symm h.1), wipeD_ne h.2]
/-- these slots hold nothing that is held by one -/
def noOwn (st : S) : List Nat → Bool
  | [] => true
  | v :: vs => (match gt st v with
    | some d => !d.own
    | none => true) && noOwn st vs
theorem noOwn_at {st : S} {i : Nat} {d : D} : ∀ {vs : List Nat}, noOwn st vs = true → i ∈ vs → st[i]? = some (some d) → d.own = false
  | [], _, h, _ => by cases h
  | v :: vs, q, h, e => by
    unfold noOwn at q
    rw [Bool.and_eq_true] at q
    rcases List.mem_cons.mp h with rfl | h
    · rw [gt_eq.mpr e] at q
      simpa using q.1
    · exact noOwn_at q.2 h e
/-- the slots of vs as they stood in st0 -/
def backD (st0 st : S) : List Nat → S
  | [] => st
  | v :: vs => pt (backD st0 st vs) v (gt st0 v)
theorem backD_length (st0 st : S) : ∀ vs : List Nat, (backD st0 st vs).length = st.length
  | [] => rfl
  | v :: vs => by unfold backD; rw [pt_length, backD_length st0 st vs]
theorem backD_in {st0 st : S} {i : Nat} : ∀ {vs : List Nat}, i ∈ vs → i < st.length → (backD st0 st vs)[i]? = some (gt st0 i)
  | [], h, _ => by cases h
  | v :: vs, h, hl => by
    unfold backD
    by_cases hv : v = i
    · subst hv
      rw [pt_self (by rw [backD_length]; exact hl)]
    · rw [pt_ne hv]
      rcases List.mem_cons.mp h with e | h
      · exact absurd e.symm hv
      · exact backD_in h hl
theorem backD_out {st0 st : S} {i : Nat} : ∀ {vs : List Nat}, i ∉ vs → (backD st0 st vs)[i]? = st[i]?
  | [], _ => rfl
  | v :: vs, h => by
    unfold backD
    simp only [List.mem_cons, not_or] at h
    rw [pt_ne (Ne.symm h.1), backD_out h.2]
section
variable {K : PySem.W.Frag} {B F F' H H' : Hp} {st st' : S} {σ : L2.St} {fp fp' : Nat → List Addr} {vs : List Nat}
theorem SR.wiped (s : SR K B F H st σ fp) : SR K B F H (wipeD st vs) (wipe σ vs) (fun i => if i ∈ vs then [] else fp i) where
  len := by rw [wipeD_length, wipe_length]; exact s.len
  bh := s.bh
  fh := s.fh
  sl := fun i d e => by
    obtain ⟨e1, hn⟩ := wipeD_some e
    obtain ⟨v, e2, o⟩ := s.sl i d e1
    refine ⟨v, (wipe_ne hn).trans e2, ?_⟩
    rw [if_neg hn]
    exact o
  em := fun i e => by
    by_cases h : i ∈ vs
    · rw [if_pos h]
    · rw [if_neg h]
      refine s.em i fun d z => e d ?_
      rw [wipeD_ne h]
      exact z
  nd := fun i => by
    by_cases h : i ∈ vs
    · rw [if_pos h]; exact List.nodup_nil
    · rw [if_neg h]; exact s.nd i
  dj := fun i j a ha hb => by
    by_cases h1 : i ∈ vs
    · rw [if_pos h1] at ha; cases ha
    · by_cases h2 : j ∈ vs
      · rw [if_pos h2] at hb; cases hb
      · rw [if_neg h1] at ha
        rw [if_neg h2] at hb
        exact s.dj i j a ha hb
/-- a wiped state, its wiped slots again as they were -/
theorem SR.back {st0 : S} (s0 : SR K B F H st0 σ fp) (n : noOwn st0 vs = true) (s : SR K B F' H' st (wipe σ vs) fp') (g : Same F F') : ∃ fp2, SR K B F' H' (backD st0 st vs) σ fp2 ∧ ∀ i a, a ∈ fp2 i → a ∈ fp' i := by
  have l1 : st.length = σ.length := by rw [s.len, wipe_length]
  refine ⟨fun i => if i ∈ vs then [] else fp' i, ⟨by rw [backD_length]; exact l1, s.bh, s.fh, fun i d e => ?_, fun i e => ?_, fun i => ?_, fun i j a ha hb => ?_⟩, fun i a ha => ?_⟩
  · by_cases h : i ∈ vs
    · have hl : i < st.length := by
        have := (List.getElem?_eq_some_iff.mp e).1
        rw [backD_length] at this
        exact this
      rw [backD_in h hl] at e
      have e0 : st0[i]? = some (some d) := gt_eq.mp (Option.some.inj e)
      obtain ⟨v, e2, o⟩ := s0.sl i d e0
      refine ⟨v, e2, ?_⟩
      rw [if_pos h]
      exact .imm (Rp.mono g _ _ (o.rp (noOwn_at n h e0)).1)
    · rw [backD_out h] at e
      obtain ⟨v, e2, o⟩ := s.sl i d e
      rw [wipe_ne h] at e2
      refine ⟨v, e2, ?_⟩
      rw [if_neg h]
      exact o
  · by_cases h : i ∈ vs
    · rw [if_pos h]
    · rw [if_neg h]
      refine s.em i fun d z => e d ?_
      rw [backD_out h]
      exact z
  · by_cases h : i ∈ vs
    · rw [if_pos h]; exact List.nodup_nil
    · rw [if_neg h]; exact s.nd i
  · by_cases h1 : i ∈ vs
    · rw [if_pos h1] at ha; cases ha
    · by_cases h2 : j ∈ vs
      · rw [if_pos h2] at hb; cases hb
      · rw [if_neg h1] at ha
        rw [if_neg h2] at hb
        exact s.dj i j a ha hb
  · have ha : a ∈ (if i ∈ vs then [] else fp' i) := ha
    by_cases h : i ∈ vs
    · rw [if_pos h] at ha; cases ha
    · rw [if_neg h] at ha; exact ha
end
def lcGo (own : List Nat) (tg : GM) (c : TM) (el : EM) : List D → S → List D → Option (List D × S)
  | [], st, acc => some (acc, st)
  | d :: ds, st, acc => match tg d st with
    | some st1 => match c st1 with
      | some (true, st2) => match el st2 with
        | some (x, st3) => if acc.length < 16777216 then lcGo own tg c el ds (wipeD st3 own) (acc ++ [x]) else none
        | none => none
      | some (false, st2) => lcGo own tg c el ds (wipeD st2 own) acc
      | none => none
    | none => none
def tYs : TM := fun st => some (true, st)
def mLc (own : List Nat) (it : IM) (tg : GM) (c : TM) (el : EM) : EM := fun st => match it st with
  | some (ds, st1) => match noOwn st1 own with
    | true => match lcGo own tg c el ds (wipeD st1 own) [] with
      | some (acc, st2) => some (.lst true acc, backD st1 st2 own)
      | none => none
    | false => none
  | none => none
/-- a target of a comprehension's own names: what it stores is within own -/
def tGo (K : PySem.W.Frag) (n : Nat) (own : List Nat) (m : GM) : TG := fun v σ H Q => ∃ B F st fp d st', SR K B F H st σ fp ∧ st.length = n ∧ Rp K F d v ∧ m d st = some st' ∧ ∀ σ' fp', SR K B F H st' σ' fp' → (∀ i, i ∉ own → σ'[i]? = σ[i]?) → st'.length = n → Q σ' H
def tGos (K : PySem.W.Frag) (n : Nat) (own : List Nat) (m : GMs) : TGs := fun vs σ H Q => ∃ B F st fp ds st', SR K B F H st σ fp ∧ st.length = n ∧ Rps K F ds vs ∧ m ds st = some st' ∧ ∀ σ' fp', SR K B F H st' σ' fp' → (∀ i, i ∉ own → σ'[i]? = σ[i]?) → st'.length = n → Q σ' H
abbrev CG (X : Cx) (own : List Nat) (e : Expr) (m : GM) : Prop := PG X e (tGo X.K X.N.length own m)
abbrev CGs (X : Cx) (own : List Nat) (e : List Expr) (m : GMs) : Prop := PGs X e (tGos X.K X.N.length own m)
section
variable {X : Cx} {own : List Nat} {e : Expr} {es : List Expr} {m : GM} {ms : GMs} {pos : Pos}
theorem c_nm {i : Nat} {x : Str} (hN : X.N.Nodup) (hi : X.N[i]? = some x) (hx : Loc X.env.scope x) (hp : own.contains i = true := by rfl) (hf : X.fn x = true ∨ X.env.scope.names.lookup x = some .local := by first | exact .inl rfl | exact .inr rfl | assumption) :
    CG X own (.Name x pos) (gNm i) := PG.mono (pg_name hN hi hx hf) fun v σ H Q ⟨B, F, st, fp, d, st', s, hl, r, em, k⟩ => by
  cases em
  refine k _ _ (s.put (by rw [hl]; exact (List.getElem?_eq_some_iff.mp hi).1) (RV.imm r)) (fun j hj => ?_) (by rw [pt_length]; exact hl)
  rw [List.getElem?_set_ne]
  intro z
  subst z
  exact hj (List.contains_iff_mem.mp hp)
theorem c_nil : CGs X own [] gNi := PGs.mono pgs_nil fun vs σ H Q ⟨B, F, st, fp, ds, st', s, hl, r, em, k⟩ => by
  cases r with
  | nil => cases em; exact ⟨rfl, k σ fp s (fun _ _ => rfl) hl⟩
  | cons a b => cases em
theorem c_co (h1 : CG X own e m) (h2 : CGs X own es ms) (hs : (assignEach (e :: es) X.env).map (·.2) = assign e X.env :: (assignEach es X.env).map (·.2) := by rfl) : CGs X own (e :: es) (gCo m ms) := PGs.mono (pgs_cons h1 h2 hs) fun vs σ H Q ⟨B, F, st, fp, ds, st', s, hl, r, em, k⟩ => by
  cases r with
  | nil => cases em
  | cons a b =>
    have em : (match m _ st with | some st1 => ms _ st1 | none => none) = some st' := em
    split at em
    · rename_i st1 q
      exact ⟨_, _, rfl, B, F, st, fp, _, st1, s, hl, a, q, fun σ1 fp1 s1 p1 l1 => ⟨B, F, st1, fp1, _, st', s1, l1, b, em, fun σ' fp' s' p' l' => k σ' fp' s' (fun i hi => (p' i hi).trans (p1 i hi)) l'⟩⟩
    · cases em
theorem c_tp {k n : Nat} (hc : X.calm = true) (h : CGs X own es ms) (hm : Many ms n) (hn : (assignEach es X.env).length = n := by rfl) (hst : (assignEach es X.env).findIdx? (·.1) = none := by rfl) : CG X own (.Tuple es k pos) (gTp ms) :=
  PG.mono (pg_tup hc h hn hst) fun v σ H Q ⟨B, F, st, fp, d, st', s, hl, r, em, k⟩ => by
  cases d with
  | tup ds =>
    cases r with
    | tup sq rs => exact ⟨_, _, rfl, s.fh.sqT sq, by rw [← rs.length]; exact hm.len ds st st' em, B, F, st, fp, ds, st', s, hl, rs, em, k⟩
  | _ => cases em
end
/-- a clause's test -/
structure TsE (X : Cx) (ifs : List Expr) (t : TM) : Prop where
  run : PTs X ifs (tT X.K t)
theorem PTs.mono {X : Cx} {e : List Expr} {t t' : TT} (h : PTs X e t) (k : ∀ σ H Q, t' σ H Q → t σ H Q) : PTs X e t' := ⟨fun pins s σ H Q I q => h.run pins s σ H Q I (k σ H Q q)⟩
theorem ts_nil {X : Cx} : TsE X [] tYs := ⟨PTs.mono pts_nil fun σ H Q ⟨B, F, st, fp, b, st', s, em, k⟩ => by
  cases em
  exact k H F fp .refl s⟩
theorem ts_one {X : Cx} {c : Expr} {t : TM} (h : BE X c t) : TsE X [c] t := ⟨pts_one h⟩
theorem wipe_eq {σ σ' : L2.St} {vs : List Nat} (hl : σ'.length = σ.length) (h : ∀ i, i ∉ vs → σ'[i]? = (wipe σ vs)[i]?) : wipe σ' vs = wipe σ vs := by
  apply List.ext_getElem?
  intro i
  by_cases hi : i ∈ vs
  · have no : ∀ (τ : L2.St) (ws : List Nat), i ∈ ws → i < τ.length → (wipe τ ws)[i]? = some none := by
      intro τ ws
      induction ws with
      | nil => intro z; cases z
      | cons v ws ih =>
        intro z hl
        unfold wipe
        by_cases hv : v = i
        · subst hv
          rw [List.getElem?_set_self (by rw [wipe_length]; exact hl)]
        · rw [List.getElem?_set_ne hv]
          rcases List.mem_cons.mp z with e | z
          · exact absurd e.symm hv
          · exact ih z hl
    by_cases hl' : i < σ.length
    · rw [no σ' vs hi (by rw [hl]; exact hl'), no σ vs hi hl']
    · rw [List.getElem?_eq_none (by rw [wipe_length, hl]; omega), List.getElem?_eq_none (by rw [wipe_length]; omega)]
  · rw [wipe_ne hi]
    exact h i hi
theorem lc_read {K : PySem.W.Frag} {n : Nat} {it : IM} {tg : GM} {c : TM} {el : EM} {own : List Nat} {σ : L2.St} {H : Hp} {Q : VK} (h : tM K (mLc own it tg c el) σ H Q) (lσ : σ.length = n) :
    tLc (tI K it) (tGo K n own tg) (tT K c) (tM K el) own σ H Q := by
  obtain ⟨B, F, st, fp, z, st', s, em, k⟩ := h
  unfold mLc at em
  split at em
  · rename_i ds st1 q1
    split at em
    · rename_i no
      split at em
      · rename_i accF stF q2
        cases em
        refine ⟨B, F, st, fp, ds, st1, s, q1, fun J H1 F1 fp1 g1 s1 itd => fun D hD => ?_⟩
        have dF : F1 D = none := sub_none s1.fh hD
        have dB : B D = none := sub_none s1.bh hD
        have s1' := (s1.grow (same_new (o := .lst []) hD) (.refl _) (fun _ _ => rfl) (s1.fh.trans (same_new hD))).wiped (vs := own)
        refine ⟨fun i m H2 => ∃ F2 st2 fp2 acc vs fa, SR K B F2 H2 st2 (wipe σ own) fp2 ∧ Gr B F1 F2 ∧ i ≤ ds.length ∧ m = ds.length - i ∧ H2 D = some (.lst vs) ∧ F2 D = none ∧ Ows K B F2 H2 acc vs fa ∧ (D :: fa).Nodup ∧ (∀ j, ∀ a ∈ fp2 j, a ∉ D :: fa) ∧
            lcGo own tg c el (ds.drop i) st2 acc = some (accF, stF),
          ⟨ds.length, F1, wipeD st1 own, _, [], [], [], s1', .refl, Nat.zero_le _, rfl, upd_same, dF, .nil, by simp, fun j a ha z => ?_, by rw [List.drop_zero]; exact q2⟩, ?_⟩
        · have e : a = D := by simpa using z
          subst e
          by_cases hj : j ∈ own
          · rw [if_pos hj] at ha; cases ha
          · rw [if_neg hj] at ha
            exact (s1.hold ha).1 hD
        rintro i m H2 ⟨F2, st2, fp2, acc, vs, fa, s2, g2, hi2, rfl, hD2, fD2, ows, nd, ap, em2⟩
        by_cases hlt : i < ds.length
        · have ed : ds[i]? = some ds[i] := List.getElem?_eq_getElem hlt
          rw [List.drop_eq_getElem_cons hlt] at em2
          unfold lcGo at em2
          split at em2
          · rename_i st3 q3
            refine .inr ⟨itd.go F2 H2 g2.ex s2.fh i hlt, fun H4 => ∃ F4 st4 fp4 acc vs fa, SR K B F4 H4 st4 (wipe σ own) fp4 ∧ Gr B F1 F4 ∧ H4 D = some (.lst vs) ∧ F4 D = none ∧ Ows K B F4 H4 acc vs fa ∧ (D :: fa).Nodup ∧ (∀ j, ∀ a ∈ fp4 j, a ∉ D :: fa) ∧
                lcGo own tg c el (ds.drop (i + 1)) st4 acc = some (accF, stF),
              fun H4 ⟨F4, st4, fp4, acc, vs, fa, s4, g4, hD4, fD4, ows4, nd4, ap4, em4⟩ => ⟨ds.length - (i + 1), by omega, F4, st4, fp4, acc, vs, fa, s4, g4, by omega, rfl, hD4, fD4, ows4, nd4, ap4, em4⟩, fun x H' y => ?_⟩
            obtain ⟨sh, F3, sf, at3, fh3, rx⟩ := itd.yld F2 H2 g2.ex s2.fh i _ x H' ed y
            have s3 := s2.grow sh sf at3 fh3
            have g3 : Gr B F1 F3 := g2.trans (.of s2 sf at3)
            have mm0 : ∀ a ∈ D :: fa, H2 a ≠ none ∧ F2 a = none ∧ B a = none := fun a ha => by
              rcases List.mem_cons.mp ha with rfl | ha
              · exact ⟨by rw [hD2]; simp, fD2, dB⟩
              · exact Ows.mem _ _ _ ows a ha
            have eqH : ∀ a ∈ D :: fa, H' a = H2 a := fun a ha => by
              cases q : H2 a with
              | none => exact absurd q (mm0 a ha).1
              | some o => exact sh a o q
            have mm : ∀ a ∈ D :: fa, H' a ≠ none ∧ F3 a = none ∧ B a = none := fun a ha => by
              obtain ⟨h1, h2, h3⟩ := mm0 a ha
              exact ⟨by rw [eqH a ha]; exact h1, by rw [at3 a h1]; exact h2, h3⟩
            have hD' : H' D = some (.lst vs) := by rw [eqH D List.mem_cons_self]; exact hD2
            have ows3 : Ows K B F3 H' acc vs fa := ows.frame sf acc vs fa (fun a ha => eqH a (List.mem_cons_of_mem _ ha)) (fun a ha => (mm a (List.mem_cons_of_mem _ ha)).2.1) fun a ha => (mm a (List.mem_cons_of_mem _ ha)).2.2
            -- the new list and its items are set aside
            have sp := s3.park ap
            have lw : st2.length = n := by rw [s2.len, wipe_length]; exact lσ
            refine ⟨bg B H' (D :: fa), F3, st2, fp2, _, st3, sp, lw, rx, q3, fun σ5 fp5 s5 p5 l5 => ?_⟩
            have w5 : wipe σ5 own = wipe (wipe σ own) own := wipe_eq (by rw [← s5.len, l5, wipe_length, lσ]) fun j hj => by rw [wipe_ne hj]; exact p5 j hj
            have ww : wipe (wipe σ own) own = wipe σ own := wipe_eq (by rw [wipe_length]) fun j hj => rfl
            refine ⟨w5.trans ww, ?_⟩
            -- how a state behind the turn is the next turn's
            have fin : ∀ {st6 : S} {F6 H6 : Hp} {fp6 : Nat → List Addr}, Gr (bg B H' (D :: fa)) F3 F6 → SR K (bg B H' (D :: fa)) F6 H6 st6 σ5 fp6 →
                ∃ fp7, SR K B F6 H6 (wipeD st6 own) (wipe σ own) fp7 ∧ (∀ i a, a ∈ fp7 i → a ∈ fp6 i) ∧ Gr B F1 F6 ∧ H6 D = some (.lst vs) ∧ F6 D = none ∧ Ows K B F6 H6 acc vs fa ∧ (∀ j, ∀ a ∈ fp6 j, a ∉ D :: fa) := fun {st6 F6 H6 fp6} g6 s6 => by
              obtain ⟨su, gu, hu, au⟩ := s6.unpark g6 mm s3.bh
              have sw := su.wiped (vs := own)
              rw [w5, ww] at sw
              refine ⟨_, sw, fun j a ha => ?_, g3.trans gu, ?_, (hu D List.mem_cons_self).2, ?_, au⟩
              · by_cases hj : j ∈ own
                · rw [if_pos hj] at ha; cases ha
                · rw [if_neg hj] at ha; exact ha
              · rw [(hu D List.mem_cons_self).1]; exact hD'
              · exact ows3.frame gu.ex acc vs fa (fun a ha => (hu a (List.mem_cons_of_mem _ ha)).1) (fun a ha => (hu a (List.mem_cons_of_mem _ ha)).2) fun a ha => (mm a (List.mem_cons_of_mem _ ha)).2.2
            split at em2
            · rename_i st6 q6
              refine ⟨bg B H' (D :: fa), F3, st3, fp5, true, st6, s5, q6, fun H6 F6 fp6 g6 s6 => ?_⟩
              split at em2
              · rename_i x7 st7 q7
                split at em2
                · rename_i hz
                  refine iteT ⟨bg B H' (D :: fa), F6, st6, fp6, x7, st7, s6, q7, fun y7 H7 F7 fp7 fv g7 s7 r7 => ?_⟩
                  obtain ⟨fp8, s8, sub8, g8, hD8, fD8, ows8, ap8⟩ := fin (g6.trans g7) s7
                  obtain ⟨ow7, ap7⟩ := r7.ow.unbg fun a ha => (mm a ha).1
                  have nDv : D ∉ fv := fun z => ap7 D z List.mem_cons_self
                  have nD8 : ∀ j, D ∉ fp8 j := fun j z => ap8 j D (sub8 j D z) List.mem_cons_self
                  have m7 := Ow.mem x7 y7 fv ow7
                  have m8 := Ows.mem acc vs fa ows8
                  rw [List.nodup_cons] at nd
                  refine ⟨vs, hD8, szlt (by rw [← ows8.length]; exact hz), F7, wipeD st7 own, fp8, acc ++ [x7], vs ++ [y7], fa ++ (fv ++ []), ?_, g8, upd_same, fD8, ?_, ?_, ?_, em2⟩
                  · refine ⟨s8.len, fun a o e => ?_, fun a o e => ?_, fun j d e => ?_, s8.em, s8.nd, s8.dj⟩
                    · rw [upd_ne fun z => by rw [z, dB] at e; cases e]; exact s8.bh a o e
                    · rw [upd_ne fun z => by rw [z, fD8] at e; cases e]; exact s8.fh a o e
                    · obtain ⟨v, e1, o⟩ := s8.sl j d e
                      exact ⟨v, e1, o.frame (.refl _) d v _ (fun a ha => upd_ne fun z => nD8 j (z ▸ ha)) (fun a ha => (s8.hold ha).2.1) fun a ha => (s8.hold ha).2.2⟩
                  · refine Ows.append (ows8.frame (.refl _) acc vs fa (fun a ha => upd_ne fun z => nd.1 (z ▸ ha)) (fun a ha => (m8 a ha).2.1) fun a ha => (m8 a ha).2.2) (.cons (ow7.frame (.refl _) x7 y7 fv (fun a ha => upd_ne fun z => nDv (z ▸ ha)) (fun a ha => (m7 a ha).2.1) fun a ha => (m7 a ha).2.2) .nil)
                  · rw [List.append_nil, List.nodup_cons]
                    refine ⟨fun z => ?_, ?_⟩
                    · rcases List.mem_append.mp z with z | z
                      · exact nd.1 z
                      · exact nDv z
                    · rw [List.nodup_append]
                      exact ⟨nd.2, r7.nd, fun a ha b hb e => ap7 b hb (List.mem_cons_of_mem _ (e ▸ ha))⟩
                  · intro j a ha z
                    rw [List.append_nil] at z
                    rcases List.mem_cons.mp z with z | z
                    · exact nD8 j (z ▸ ha)
                    · rcases List.mem_append.mp z with z | z
                      · exact ap8 j a (sub8 j a ha) (List.mem_cons_of_mem _ z)
                      · exact r7.ap j a (sub8 j a ha) z
                · cases em2
              · cases em2
            · rename_i st6 q6
              refine ⟨bg B H' (D :: fa), F3, st3, fp5, false, st6, s5, q6, fun H6 F6 fp6 g6 s6 => ?_⟩
              obtain ⟨fp8, s8, sub8, g8, hD8, fD8, ows8, ap8⟩ := fin g6 s6
              exact iteF ⟨F6, wipeD st6 own, fp8, acc, vs, fa, s8, g8, hD8, fD8, ows8, nd, fun j a ha => ap8 j a (sub8 j a ha), em2⟩
            · cases em2
          · cases em2
        · have e : i = ds.length := by omega
          subst e
          rw [List.drop_length] at em2
          cases em2
          obtain ⟨fp9, s9, sub9⟩ := s1.back no s2 g2.ex
          exact .inl ⟨itd.stop F2 H2 g2.ex s2.fh, k _ H2 F2 fp9 (D :: fa) (g1.trans g2) s9 ⟨.lst hD2 fD2 dB ows, nd, fun j a ha => ap j a (sub9 j a ha)⟩⟩
      · cases em
    · cases em
  · cases em
theorem PE.monoL {X : Cx} {e : Expr} {t t' : TE} (h : PE X e t) (k : ∀ σ H Q, σ.length = X.N.length → t' σ H Q → t σ H Q) : PE X e t' := ⟨fun pins s σ H Q I q => h.run pins s σ H Q I (k σ H Q I.len q)⟩
theorem PS.monoL {X : Cx} {e : Stmt} {t t' : TS} (h : PS X e t) (k : ∀ D σ H, σ.length = X.N.length → t' D σ H → t D σ H) : PS X e t' := ⟨fun pins s σ H D I q => h.run pins s σ H D I (k D σ H I.len q)⟩
section
variable {X : Cx} {pn : List Nat} {elt tg iter : Expr} {ifs : List Expr} {scope : Scope} {own : List (Str × Nat)} {pos spos : Pos} {it : IM} {g : GM} {t : TM} {el : EM}
/-- [elt for tg in iter if ..] -/
theorem j_lc (hc : X.calm = true) (hN : X.N.Nodup) (hi : IE X tg iter it) (ok : blkC X.N X.env.scope scope own = true)
    (hg : ∀ (s : Shared) (H : Hp) (C : Addr) (cl : List (Str × Addr)) (fp : List Addr), CG (X.blk s H scope (compEnvC scope cl C X.env) fp) (own.map (·.2)) tg g) (ht : ∀ (s : Shared) (H : Hp) (C : Addr) (cl : List (Str × Addr)) (fp : List Addr), TsE (X.blk s H scope (compEnvC scope cl C X.env) fp) ifs t)
    (he : ∀ (s : Shared) (H : Hp) (C : Addr) (cl : List (Str × Addr)) (fp : List Addr), ME (X.blk s H scope (compEnvC scope cl C X.env) fp) elt el) (hs : ∀ x, foldedSetIterable iter X.env x = pure x := by intro _; rfl) :
    ME X (.ListComp elt [⟨tg, iter, ifs, 0⟩] scope pos) (mLc (own.map (·.2)) it g t el) :=
  PE.monoL (pe_lc (own := own) hc hN hi (blkOk_by ok) hg (fun s H C cl fp => (ht s H C cl fp).run) he hs) fun σ H Q hl h => lc_read h hl
/-- name = [..] on one line -/
theorem s_setLc {i : Nat} {y : Str} {py : Pos} (hc : X.calm = true) (hN : X.N.Nodup) (hy : X.N[i]? = some y) (hyl : X.env.scope.names.lookup y = some .local)
    (hsw : swapsWith (.ListComp elt [⟨tg, iter, ifs, 0⟩] scope pos) (some (.Name y py)) spos.line X.env = pure true) (hi : IE X tg iter it) (ok : blkC X.N X.env.scope scope own = true)
    (hg : ∀ (s : Shared) (H : Hp) (C : Addr) (cl : List (Str × Addr)) (fp : List Addr), CG (X.blk s H scope (compEnvC scope cl C X.env) fp) (own.map (·.2)) tg g) (ht : ∀ (s : Shared) (H : Hp) (C : Addr) (cl : List (Str × Addr)) (fp : List Addr), TsE (X.blk s H scope (compEnvC scope cl C X.env) fp) ifs t)
    (he : ∀ (s : Shared) (H : Hp) (C : Addr) (cl : List (Str × Addr)) (fp : List Addr), ME (X.blk s H scope (compEnvC scope cl C X.env) fp) elt el) (hp : pn.contains i = false := by rfl) (hs : ∀ x, foldedSetIterable iter X.env x = pure x := by intro _; rfl) :
    SE X pn (.Assign [.Name y py] (.ListComp elt [⟨tg, iter, ifs, 0⟩] scope pos) spos) (mSet i (mLc (own.map (·.2)) it g t el)) :=
  PS.monoL (ps_setLc (i := i) (own := own) hc hN hy hyl hsw hi (blkOk_by ok) hg (fun s H C cl fp => (ht s H C cl fp).run) he hs) fun D σ H hσ ⟨B, F, st, fp, fl, st', s, hl, em, k⟩ => by
  unfold mSet at em
  cases q : mLc (own.map (·.2)) it g t el st with
  | none => rw [q] at em; cases em
  | some w =>
    obtain ⟨d, st1⟩ := w
    rw [q] at em
    cases em
    refine lc_read (n := X.N.length) ⟨B, F, st, fp, d, st1, s, q, fun v H1 F1 fp1 fv g1 s1 r1 => ?_⟩ hσ
    have l1 : st1.length = X.N.length := by rw [s1.len]; exact hσ
    exact k _ H1 F1 _ g1 (s1.put (by rw [l1]; exact (List.getElem?_eq_some_iff.mp hy).1) r1) (set_ne hp) (by rw [pt_length]; exact l1)
end
end MP

/-! MP9: stores into lists and dicts; extend, insert, pop; calls; defs. -/
namespace MP
open PySem L2

section
variable {X : Cx} {pn : List Nat} {e : Expr} {m : EM} {pos apos cpos : Pos} {o o1 o2 : OM} {x : Expr} {i : Nat}
/-- the one list of a slot, its items plain, becomes another -/
theorem SR.pokeL {K : PySem.W.Frag} {B F H : Hp} {st : S} {σ : L2.St} {fp : Nat → List Addr} (s : SR K B F H st σ fp) {i : Nat} {ds ds' : List D} (q : gt st i = some (.lst true ds)) (p : plain ds = true) :
    ∃ a vs, σ[i]? = some (some (.ref a)) ∧ H a = some (.lst vs) ∧ Rps K F ds vs ∧ ∀ vs', Rps K F ds' vs' → SR K B F (upd H a (.lst vs')) (pt st i (some (.lst true ds'))) σ (fun j => if j = i then [a] else fp j) := by
  obtain ⟨v, e1, w⟩ := s.slot q
  obtain ⟨a, vs, fs, rfl, ef, h, n1, n2, ows⟩ := ow_own w
  obtain ⟨rs, rfl⟩ := ows.rps p
  refine ⟨a, vs, e1, h, rs, fun vs' rs' => s.poke e1 n1 n2 (fun j hj z => hj (s.dj j i a z (by rw [ef]; exact List.mem_cons_self))) (.lst upd_same n1 n2 (Ows.of rs')) (by simp) fun j hj b hb z => ?_⟩
  have e : b = a := by simpa using z
  subst e
  exact hj (s.dj j i b hb (by rw [ef]; exact List.mem_cons_self))
def mExt (i : Nat) (o : OM) : EM := fun st => match gt st i with
  | some (.lst true _) => match o st with
    | some (h, st1) => match h.get st1, gt st1 i with
      | some (.lst _ es), some (.lst true ds) => if plain ds = true ∧ plain es = true ∧ ds.length + es.length ≤ 16777216 then some (.non, pt st1 i (some (.lst true (ds ++ es)))) else none
      | _, _ => none
    | none => none
  | _ => none
theorem j_ext (hx : PE X x (tVar i)) (he : OE X e o) (hbase : attributeBase x "extend" X.env (eval x X.env) = eval x X.env := by rfl)
    (hfew : ((backTo cpos (starEach [e] X.env)).all (fun x => !x.1) && (backToKw cpos (keywordEach [] X.env)).all (fun x => x.1.isSome)
      && decide ([e].length + ([] : List Keyword).length + (if ([] : List Keyword).isEmpty then 0 else 1) < 30)) = true := by rfl)
    (hline : (apos.endLine == cpos.line) = true := by rfl) (hs : starEach [e] X.env = (false, eval e X.env) :: starEach [] X.env := by rfl) (hplain : (backTo cpos (starEach [] X.env)).any (·.1) = false := by rfl) :
    VE X (.Call (.Attribute x "extend" apos) [e] [] cpos) (mExt i o) :=
  PE.mono (pe_bm PySem.F.plainAttrs_list PySem.F.slot_list_extend PySem.F.type_list_extend mt_extend hx (pa_cons he pa_nil hs) hbase hfew hline hs hplain) fun σ H Q ⟨B, F, st, fp, d0, st', s, em, k⟩ => by
  unfold mExt at em
  split at em
  · rename_i ds0 q0
    split at em
    · rename_i h st1 q1
      split at em
      · rename_i oo es ds q2 q3
        split at em
        · rename_i hz
          cases em
          obtain ⟨v0, e0, w0⟩ := s.slot q0
          obtain ⟨a0, vs0, fs0, rfl, _, h0, _⟩ := ow_own w0
          refine ⟨.ref a0, e0, .inl ⟨rfl, _, SqL.of h0⟩, B, F, st, fp, h, st1, s, q1, fun v H1 F1 fp1 g1 s1 r1 => ?_⟩
          obtain ⟨f2, w2⟩ := s1.look r1 q2
          obtain ⟨b, ws, rfl, hb, rs⟩ := ow_lstP s1.fh w2 hz.2.1
          obtain ⟨a, vs, e1, ha, rd, fin⟩ := s1.pokeL (ds' := ds ++ es) q3 hz.1
          rw [e0] at e1
          cases e1
          refine ⟨a0, b, vs, ws, rfl, rfl, ha, hb, szl (by rw [← rd.length, ← rs.length]; exact hz.2.2), ?_⟩
          exact k _ _ F1 _ g1 (fin _ (rd.append rs)) .non
        · cases em
      · cases em
    · cases em
  · cases em
/-- xs.insert(k, e), k not negative -/
def mIns (i : Nat) (r : AM) : EM := fun st => match gt st i with
  | some (.lst true _) => match r st with
    | some (ls, st1) => match datsOf ls, gt st1 i with
      | some [.int k, d], some (.lst true ds) => if plain ds = true ∧ d.own = false ∧ ds.length < 16777216 ∧ 0 ≤ k ∧ k < 9223372036854775808 then some (.non, pt st1 i (some (.lst true (ds.take k.toNat ++ d :: ds.drop k.toNat)))) else none
      | _, _ => none
    | none => none
  | _ => none
/-- xs.pop() -/
def mPop (i : Nat) : EM := fun st => match gt st i with
  | some (.lst true ds) => match ds[ds.length - 1]? with
    | some d => if plain ds = true then some (d, pt st i (some (.lst true ds.dropLast))) else none
    | none => none
  | _ => none
theorem Rps.dropLast {K : PySem.W.Frag} {F : Hp} : ∀ {ds : List D} {vs : List V}, Rps K F ds vs → Rps K F ds.dropLast vs.dropLast
  | _, _, .nil => .nil
  | _, _, .cons a .nil => .nil
  | _, _, .cons a (.cons b t) => .cons a (Rps.dropLast (.cons b t))
theorem j_pop (hx : PE X x (tVar i)) (hbase : attributeBase x "pop" X.env (eval x X.env) = eval x X.env := by rfl) (hline : (apos.endLine == cpos.line) = true := by rfl) :
    VE X (.Call (.Attribute x "pop" apos) [] [] cpos) (mPop i) :=
  PE.mono (pe_bm0 PySem.F.plainAttrs_list PySem.F.slot_list_pop PySem.F.type_list_pop mt_pop hx hbase hline) fun σ H Q ⟨B, F, st, fp, d0, st', s, em, k⟩ => by
  unfold mPop at em
  split at em
  · rename_i ds q0
    split at em
    · rename_i d q1
      split at em
      · rename_i hz
        cases em
        obtain ⟨a, vs, e1, ha, rd, fin⟩ := s.pokeL (ds' := ds.dropLast) q0 hz
        obtain ⟨v, ev, rv⟩ := rd.get q1
        refine ⟨.ref a, e1, .inl ⟨rfl, _, SqL.of ha⟩, a, vs, v, rfl, rfl, ha, by rw [← rd.length]; exact ev, ?_⟩
        exact k _ _ F _ .refl (fin _ rd.dropLast) rv
      · cases em
    · cases em
  · cases em

/-! ### x[k] = e -/
def putD : List Key → List D → Key → D → List Key × List D
  | k :: ks, d :: ds, x, y => if k = x then (k :: ks, y :: ds) else ((k :: (putD ks ds x y).1), d :: (putD ks ds x y).2)
  | _, _, x, y => ([x], [y])
def gPut : D → D → D → Option D := fun d k e => match d with
  | .lst true ds => match k with
    | .int j => match ixN ds.length j with
      | some n => if plain ds = true then some (.lst true (ds.set n e)) else none
      | none => none
    | _ => none
  | .dic true ks ds => match keyOf k with
    | some x => if plain ds = true ∧ ks.Nodup ∧ ks.length < 16777216 then some (.dic true (putD ks ds x e).1 (putD ks ds x e).2) else none
    | none => none
  | _ => none
def mPut (i : Nat) (ok : OM) (me : EM) : SM := fun st => match me st with
  | some (e, st1) => match gt st1 i with
    | some _ => match ok st1 with
      | some (h, st2) => match h.get st2, gt st2 i with
        | some k, some d => match gPut d k e with
          | some z => some (.nx, pt st2 i (some z))
          | none => none
        | _, _ => none
      | none => none
    | none => none
  | none => none
def rSetG : V → V → V → Hp → (Hp → Prop) → Prop := fun o i v H Q => rSetL o i v H Q ∨ ∃ a H4, o = .ref a ∧ DPut H a i v H4 ∧ Q H4
theorem set_all (hu : X.A.units + 1 < cLine) : PSet X rSetG := by
  intro pins s σ H o i v ov iv u Q I r1 r2 r3 h
  rcases h with h | ⟨a, H4, rfl, g, q⟩
  · exact set_list pins s σ H o i v ov iv u Q I r1 r2 r3 h
  · obtain rfl : ov = Value.ref a := r1
    exact d_setItem hu I g r2 r3 fun s4 I4 => ⟨H4, I4, q⟩
theorem putK_d {K : PySem.W.Frag} {F : Hp} {k : Key} {y : D} {v : V} (ry : Rp K F y v) : ∀ {kvs : List (Key × V)} {ds : List D}, (kvs.map (·.1)).Nodup → Rps K F ds (kvs.map (·.2)) →
    ((putK kvs k v).map (·.1)) = (putD (kvs.map (·.1)) ds k y).1 ∧ Rps K F (putD (kvs.map (·.1)) ds k y).2 ((putK kvs k v).map (·.2)) := by
  have key : ∀ {kvs : List (Key × V)} {ds : List D}, (kvs.map (·.1)).Nodup → Rps K F ds (kvs.map (·.2)) →
      (valV kvs k = none → (putD (kvs.map (·.1)) ds k y).1 = kvs.map (·.1) ++ [k] ∧ Rps K F (putD (kvs.map (·.1)) ds k y).2 (kvs.map (·.2) ++ [v])) ∧
      ((valV kvs k).isSome = true → (putD (kvs.map (·.1)) ds k y).1 = kvs.map (·.1) ∧ Rps K F (putD (kvs.map (·.1)) ds k y).2 ((kvs.map fun kv => if kv.1 = k then (kv.1, v) else kv).map (·.2))) := by
    intro kvs
    induction kvs with
    | nil =>
      intro ds _ r
      cases r
      exact ⟨fun _ => ⟨rfl, .cons ry .nil⟩, fun z => by cases z⟩
    | cons p r ih =>
      intro ds nd rs
      obtain ⟨j, w⟩ := p
      cases rs with
      | cons r1 r2 =>
        rename_i d ds'
        rw [List.map_cons, List.nodup_cons] at nd
        obtain ⟨ih1, ih2⟩ := ih nd.2 r2
        by_cases h : j = k
        · subst h
          refine ⟨fun z => ?_, fun _ => ?_⟩
          · rw [valV_pos (p := (j, w)) rfl] at z; cases z
          · have e1 : putD (((j, w) :: r).map (·.1)) (d :: ds') j y = (j :: r.map (·.1), y :: ds') := by
              show (if j = j then _ else _) = _
              rw [if_pos rfl]
            rw [e1]
            refine ⟨rfl, ?_⟩
            have e2 : (((j, w) :: r).map fun kv => if kv.1 = j then (kv.1, v) else kv) = (j, v) :: r := by
              rw [List.map_cons]
              have e4 : (if ((j, w) : Key × V).1 = j then (((j, w) : Key × V).1, v) else (j, w)) = (j, v) := if_pos rfl
              have e3 : (r.map fun kv => if kv.1 = j then (kv.1, v) else kv) = r := by
                have h1 : ∀ kv ∈ r, (if kv.1 = j then (kv.1, v) else kv) = kv := fun kv hk => if_neg fun z => nd.1 (List.mem_map.mpr ⟨kv, hk, z⟩)
                rw [List.map_congr_left h1, List.map_id']
              rw [e4, e3]
            rw [e2]
            exact .cons ry r2
        · have e1 : putD (((j, w) :: r).map (·.1)) (d :: ds') k y = (j :: (putD (r.map (·.1)) ds' k y).1, d :: (putD (r.map (·.1)) ds' k y).2) := by
            show (if j = k then _ else _) = _
            rw [if_neg h]
          rw [e1, valV_neg (p := (j, w)) h]
          refine ⟨fun z => ?_, fun z => ?_⟩
          · obtain ⟨a1, a2⟩ := ih1 z
            exact ⟨by rw [a1]; rfl, .cons r1 a2⟩
          · obtain ⟨a1, a2⟩ := ih2 z
            refine ⟨by rw [a1]; rfl, ?_⟩
            rw [List.map_cons]
            have e5 : (if ((j, w) : Key × V).1 = k then (((j, w) : Key × V).1, v) else (j, w)) = (j, w) := if_neg h
            rw [e5]
            exact .cons r1 a2
  intro kvs ds nd rs
  obtain ⟨k1, k2⟩ := key nd rs
  cases q : valV kvs k with
  | none =>
    obtain ⟨a1, a2⟩ := k1 q
    rw [putK_new v q, List.map_append, List.map_append]
    exact ⟨a1.symm, a2⟩
  | some w =>
    obtain ⟨a1, a2⟩ := k2 (by rw [q]; rfl)
    have e : putK kvs k v = kvs.map fun kv => if kv.1 = k then (kv.1, v) else kv := by
      unfold putK
      rw [valV_any, q]
      rfl
    rw [e]
    refine ⟨?_, a2⟩
    rw [a1, List.map_map]
    refine List.map_congr_left fun p _ => ?_
    show (if p.1 = k then (p.1, v) else p).1 = p.1
    split <;> rfl
theorem Rp.dicP {K : PySem.W.Frag} {B F H : Hp} {st : S} {σ : L2.St} {fp : Nat → List Addr} (s : SR K B F H st σ fp) {i : Nat} {ks : List Key} {ds : List D} (q : gt st i = some (.dic true ks ds)) (p : plain ds = true) :
    ∃ a kvs, σ[i]? = some (some (.ref a)) ∧ H a = some (.dK kvs) ∧ kvs.map (·.1) = ks ∧ Rps K F ds (kvs.map (·.2)) ∧ ∀ kvs' ks' ds', kvs'.map (·.1) = ks' → Rps K F ds' (kvs'.map (·.2)) → SR K B F (upd H a (.dK kvs')) (pt st i (some (.dic true ks' ds'))) σ (fun j => if j = i then [a] else fp j) := by
  obtain ⟨v, e1, w⟩ := s.slot q
  have key : ∀ {f : List Addr}, Ow K B F H (.dic true ks ds) v f → ∃ a kvs fs, v = .ref a ∧ f = a :: fs ∧ H a = some (.dK kvs) ∧ F a = none ∧ B a = none ∧ kvs.map (·.1) = ks ∧ Ows K B F H ds (kvs.map (·.2)) fs := fun h => by
    cases h with
    | imm r => cases r
    | dic a b c k r => exact ⟨_, _, _, rfl, rfl, a, b, c, k, r⟩
  obtain ⟨a, kvs, fs, rfl, ef, h, n1, n2, hk, ows⟩ := key w
  obtain ⟨rs, rfl⟩ := ows.rps p
  refine ⟨a, kvs, e1, h, hk, rs, fun kvs' ks' ds' hk' rs' => s.poke e1 n1 n2 (fun j hj z => hj (s.dj j i a z (by rw [ef]; exact List.mem_cons_self))) (.dic upd_same n1 n2 hk' (Ows.of rs')) (by simp) fun j hj b hb z => ?_⟩
  have e : b = a := by simpa using z
  subst e
  exact hj (s.dj j i b hb (by rw [ef]; exact List.mem_cons_self))
theorem s_put {k : Expr} {ok : OM} {me : EM} {pos' : Pos} (hu : X.A.units + 1 < cLine) (hx : PE X x (tVar i)) (hk : OE X k ok) (he : VE X e me)
    (hs : swapsWithSole [.Subscript x k pos'] e pos.line X.env = pure false := by rfl) (hw : swappedStores [.Subscript x k pos'] e X.env = pure none := by rfl)
    (h1 : (assignEach [.Subscript x k pos'] X.env).map (·.2) = [assign (.Subscript x k pos') X.env] := by rfl)
    (ha : ∀ v, assign (.Subscript x k pos') X.env v = (do
      let ov ← holding [v] (eval x X.env)
      let iv ← holding [v, ov] (eval k X.env)
      standAt pos'
      holding [v, ov, iv] (setItem ov iv v)
      release [v, ov, iv] []) := by intro _; rfl) :
    SE X pn (.Assign [.Subscript x k pos'] e pos) (mPut i ok me) := PS.mono (ps_asg he (pg_sub hx hk (set_all hu) ha) hs hw h1) fun D σ H ⟨B, F, st, fp, fl, st', s, hl, em, kk⟩ => by
  unfold mPut at em
  split at em
  · rename_i d1 st1 q1
    split at em
    · rename_i dd q0
      split at em
      · rename_i h st2 q2
        split at em
        · rename_i kd d q3 q4
          split at em
          · rename_i z q5
            cases em
            refine ⟨B, F, st, fp, d1, st1, s, q1, fun v H1 F1 fp1 g1 s1 r1 => ?_⟩
            obtain ⟨ov, eo, wo⟩ := s1.slot q0
            refine ⟨ov, eo, B, F1, st1, fp1, h, st2, s1, q2, fun kv H2 F2 fp2 g2 s2 r2 => ?_⟩
            obtain ⟨f3, w3⟩ := s2.look r2 q3
            have r1' := Rp.mono g2.ex _ _ r1
            have l2 : st2.length = X.N.length := by rw [s2.len, ← s.len]; exact hl
            unfold gPut at q5
            split at q5
            · rename_i ds
              split at q5
              · rename_i j
                split at q5
                · rename_i n hn
                  split at q5
                  · rename_i hp
                    cases q5
                    obtain ⟨a, vs, e1, hA, rd, fin⟩ := s2.pokeL (ds' := ds.set n d1) q4 hp
                    rw [eo] at e1
                    cases e1
                    obtain rfl := ow_int w3
                    refine .inl ⟨a, vs, j, n, rfl, rfl, hA, by rw [← rd.length]; exact hn, ?_⟩
                    exact kk σ _ F2 _ (g1.trans g2) (fin _ (rd.set r1' n)) (fun _ _ => rfl) (by rw [pt_length]; exact l2)
                  · cases q5
                · cases q5
              · cases q5
            · rename_i ks ds
              split at q5
              · rename_i key hkey
                split at q5
                · rename_i hp
                  cases q5
                  obtain ⟨a, kvs, e1, hA, hks, rd, fin⟩ := Rp.dicP s2 q4 hp.1
                  rw [eo] at e1
                  cases e1
                  subst hks
                  have hkv := keyOf_v w3 hkey
                  subst hkv
                  obtain ⟨p1, p2⟩ := putK_d (k := key) r1' hp.2.1 rd
                  refine .inr ⟨a, upd H2 a (.dK (putK kvs key v)), rfl, DPut.k hA (szlt (by rw [← List.length_map (·.1)]; exact hp.2.2)), ?_⟩
                  exact kk σ _ F2 _ (g1.trans g2) (fin _ _ _ p1 p2) (fun _ _ => rfl) (by rw [pt_length]; exact l2)
                · cases q5
              · cases q5
            · cases q5
          · cases em
        · cases em
      · cases em
    · cases em
  · cases em
theorem j_ins {es : List Expr} {r : AM} (hx : PE X x (tVar i)) (he : AE X (e :: es) r) (hbase : attributeBase x "insert" X.env (eval x X.env) = eval x X.env := by rfl)
    (hfew : ((backTo cpos (starEach (e :: es) X.env)).all (fun x => !x.1) && (backToKw cpos (keywordEach [] X.env)).all (fun x => x.1.isSome)
      && decide ((e :: es).length + ([] : List Keyword).length + (if ([] : List Keyword).isEmpty then 0 else 1) < 30)) = true := by rfl)
    (hline : (apos.endLine == cpos.line) = true := by rfl) (hs : starEach (e :: es) X.env = (false, eval e X.env) :: starEach es X.env := by rfl) (hplain : (backTo cpos (starEach es X.env)).any (·.1) = false := by rfl) :
    VE X (.Call (.Attribute x "insert" apos) (e :: es) [] cpos) (mIns i r) :=
  PE.mono (pe_bm PySem.F.plainAttrs_list PySem.F.slot_list_insert PySem.F.type_list_insert mt_insert hx he hbase hfew hline hs hplain) fun σ H Q ⟨B, F, st, fp, d0, st', s, em, k⟩ => by
  unfold mIns at em
  split at em
  · rename_i ds0 q0
    split at em
    · rename_i ls st1 q1
      split at em
      · rename_i kk d ds q2 q3
        split at em
        · rename_i hz
          cases em
          obtain ⟨v0, e0, w0⟩ := s.slot q0
          obtain ⟨a0, vs0, fs0, rfl, _, h0, _⟩ := ow_own w0
          refine ⟨.ref a0, e0, .inl ⟨rfl, _, SqL.of h0⟩, B, F, st, fp, ls, st1, s, q1, fun ws H1 F1 fp1 ft g1 s1 av nd ap => ?_⟩
          have ow := av.ows q2
          obtain ⟨a, vs, e1, ha, rd, fin⟩ := s1.pokeL (ds' := ds.take kk.toNat ++ d :: ds.drop kk.toNat) q3 hz.1
          rw [e0] at e1
          cases e1
          cases ow with
          | cons w1 t1 =>
            obtain rfl := ow_int w1
            cases t1 with
            | cons w2 t2 =>
              cases t2
              have r2 := (w2.rp hz.2.1).1
              refine ⟨a0, vs, kk, _, rfl, rfl, ha, szlt (by rw [← rd.length]; exact hz.2.2.1), hz.2.2.2.1, hz.2.2.2.2, ?_⟩
              refine k _ _ F1 _ g1 (fin _ ?_) .non
              have q := ((rd.take kk.toNat).append (.cons r2 .nil)).append (rd.drop kk.toNat)
              rw [List.append_assoc] at q
              exact q
        · cases em
      · cases em
    · cases em
  · cases em
/-! dict display without entries -/
def mDn : EM := fun st => some (.dic true [] [], st)
theorem j_dn : ME X (.Dict [] [] pos) mDn := PE.mono pe_dnewK fun σ H Q ⟨B, F, st, fp, d, st', s, em, k⟩ => by
  cases em
  intro p hp
  have sm := same_new (o := .dK []) hp
  exact k _ _ F fp [p] .refl (s.grow sm (.refl _) (fun _ _ => rfl) (s.fh.trans sm)) ⟨.dic upd_same (sub_none s.fh hp) (sub_none s.bh hp) rfl .nil, by simp, fun i a ha z => by
    have e : a = p := by simpa using z
    subst e
    exact (s.hold ha).1 hp⟩
end
end MP

/-! MPA: defs and calls. -/
namespace MP
open PySem L2

abbrev FM := List D → Option (D × S)
def outsOf : List Bool → S → S
  | true :: bs, o :: st => o :: outsOf bs st
  | false :: bs, _ :: st => none :: outsOf bs st
  | _, _ => []
theorem outsOf_at : ∀ {md : List Bool} {st : S} {i : Nat} {d : D}, (outsOf md st)[i]? = some (some d) → md[i]? = some true ∧ st[i]? = some (some d)
  | true :: bs, o :: st, 0, d, h => ⟨rfl, h⟩
  | true :: bs, o :: st, i + 1, d, h => by
    have := outsOf_at (md := bs) (st := st) (i := i) (d := d) (by simpa [outsOf] using h)
    simpa using this
  | false :: bs, _ :: st, 0, d, h => by simp [outsOf] at h
  | false :: bs, _ :: st, i + 1, d, h => by
    have := outsOf_at (md := bs) (st := st) (i := i) (d := d) (by simpa [outsOf] using h)
    simpa using this
  | [], _, _, _, h => by simp [outsOf] at h
  | true :: _, [], _, _, h => by simp [outsOf] at h
  | false :: _, [], _, _, h => by simp [outsOf] at h
theorem outsOf_len : ∀ {md : List Bool} {st : S}, md.length ≤ st.length → (outsOf md st).length = md.length
  | [], _, _ => by simp [outsOf]
  | true :: bs, o :: st, h => by
    show (outsOf bs st).length + 1 = bs.length + 1
    rw [outsOf_len (by simpa using h)]
  | false :: bs, o :: st, h => by
    show (outsOf bs st).length + 1 = bs.length + 1
    rw [outsOf_len (by simpa using h)]
  | _ :: _, [], h => by simp at h
def spM (K : PySem.W.Frag) (md : List Bool) (fm : FM) : Sp := fun vs H Q _ => ∃ B F ds fp r outs, SR K B F H (ds.map some) (vs.map some) fp ∧ ds.length = md.length ∧ (∀ i, md[i]? = some false → fp i = []) ∧ fm ds = some (r, outs) ∧
  ∀ v H' F' fp' fv, Gr B F F' → SR K B F' H' outs (vs.map some) fp' → RV K B F' H' fp' r v fv → Q v H'
theorem spM_len {K : PySem.W.Frag} {md : List Bool} {fm : FM} {vs : List V} {H : Hp} {Q : VK} {E : XK} (h : spM K md fm vs H Q E) : vs.length = md.length := by
  obtain ⟨B, F, ds, fp, r, outs, s, hl, _⟩ := h
  have := s.len
  rw [List.length_map, List.length_map] at this
  rw [← this]
  exact hl
def fnM (n : Nat) (md : List Bool) (body : SM) : FM := fun ds => match body (ds.map some ++ List.replicate (n - ds.length) none) with
  | some (.rt r, st') => some (r, outsOf md st')
  | some (.nx, st') => some (.non, outsOf md st')
  | _ => none
theorem SR.ext {K : PySem.W.Frag} {B F H : Hp} {st : S} {σ : L2.St} {fp : Nat → List Addr} (s : SR K B F H st σ fp) (m : Nat) : SR K B F H (st ++ List.replicate m none) (σ ++ List.replicate m none) fp where
  len := by rw [List.length_append, List.length_append, s.len, List.length_replicate, List.length_replicate]
  bh := s.bh
  fh := s.fh
  sl := fun i d e => by
    by_cases hi : i < st.length
    · rw [List.getElem?_append_left hi] at e
      obtain ⟨v, e1, o⟩ := s.sl i d e
      exact ⟨v, by rw [List.getElem?_append_left (by rw [← s.len]; exact hi)]; exact e1, o⟩
    · rw [List.getElem?_append_right (by omega), List.getElem?_replicate] at e
      split at e <;> cases e
  em := fun i e => by
    refine s.em i fun d z => e d ?_
    rw [List.getElem?_append_left (List.getElem?_eq_some_iff.mp z).1]
    exact z
  nd := s.nd
  dj := s.dj
theorem start_at {N : List Str} {vs : List V} {i : Nat} (h : i < vs.length) : (L2.start N vs)[i]? = (vs.map some)[i]? := by
  unfold L2.start
  rw [List.getElem?_append_left (by rw [List.length_map]; exact h)]
/-- a body that has ended: what the caller gets -/
theorem SR.outs {K : PySem.W.Frag} {B F H : Hp} {st : S} {σ : L2.St} {fp : Nat → List Addr} {N : List Str} {vs : List V} {md : List Bool} {pn : List Nat} (s : SR K B F H st σ fp) (hl : vs.length = md.length) (hN : md.length ≤ st.length) (hp : ∀ i, md[i]? = some true → i ∈ pn)
    (p : ∀ i ∈ pn, σ[i]? = (L2.start N vs)[i]?) : SR K B F H (outsOf md st) (vs.map some) (fun i => if md[i]? = some true then fp i else []) where
  len := by rw [outsOf_len hN, List.length_map, hl]
  bh := s.bh
  fh := s.fh
  sl := fun i d e => by
    obtain ⟨e1, e2⟩ := outsOf_at e
    obtain ⟨v, e3, o⟩ := s.sl i d e2
    have hi : i < vs.length := by rw [hl]; exact (List.getElem?_eq_some_iff.mp e1).1
    refine ⟨v, ?_, by rw [if_pos e1]; exact o⟩
    rw [← start_at (N := N) hi, ← p i (hp i e1)]
    exact e3
  em := fun i e => by
    by_cases h : md[i]? = some true
    · rw [if_pos h]
      refine s.em i fun d z => e d ?_
      have key : ∀ {md : List Bool} {st : S} {i : Nat} {d : D}, md[i]? = some true → st[i]? = some (some d) → (outsOf md st)[i]? = some (some d) := by
        intro md
        induction md with
        | nil => intro st i d h; simp at h
        | cons b bs ih =>
          intro st i d h z
          cases st with
          | nil => simp at z
          | cons o st =>
            cases i with
            | zero =>
              have : b = true := by simpa using h
              subst this
              exact z
            | succ i =>
              have := ih (st := st) (i := i) (d := d) (by simpa using h) (by simpa using z)
              cases b <;> simpa [outsOf] using this
      exact key h z
    · rw [if_neg h]
  nd := fun i => by
    by_cases h : md[i]? = some true
    · rw [if_pos h]; exact s.nd i
    · rw [if_neg h]; exact List.nodup_nil
  dj := fun i j a ha hb => by
    by_cases h1 : md[i]? = some true
    · by_cases h2 : md[j]? = some true
      · rw [if_pos h1] at ha
        rw [if_pos h2] at hb
        exact s.dj i j a ha hb
      · rw [if_neg h2] at hb; cases hb
    · rw [if_neg h1] at ha; cases ha
/-- a body's reading at the entry -/
theorem fn_read {K : PySem.W.Frag} {N : List Str} {md : List Bool} {pn : List Nat} {bm : SM} (hN : md.length ≤ N.length) (hp : ∀ i, md[i]? = some true → i ∈ pn) {vs : List V} {H : Hp} {Q : VK} {E : XK} (h : spM K md (fnM N.length md bm) vs H Q E) :
    tS K N.length pn bm { nx := fun _ H' => Q .non H', rt := Q } (L2.start N vs) H := by
  have lv := spM_len h
  obtain ⟨B, F, ds, fp, r, outs, s, hl, hm, em, k⟩ := h
  unfold fnM at em
  have sx := s.ext (N.length - ds.length)
  have eσ : vs.map some ++ List.replicate (N.length - ds.length) none = L2.start N vs := by
    unfold L2.start
    rw [hl, lv]
  rw [eσ] at sx
  have lst : (ds.map some ++ List.replicate (N.length - ds.length) none).length = N.length := by
    rw [List.length_append, List.length_map, List.length_replicate]
    omega
  split at em
  · rename_i d st' q
    cases em
    refine ⟨B, F, _, fp, .rt _, st', sx, lst, q, fun σ' H' F' fp' g s' p' l' => ?_⟩
    intro v fv rv
    refine k v H' F' _ fv g (s'.outs lv (by rw [l']; exact hN) hp p') ⟨rv.ow, rv.nd, fun i a ha => ?_⟩
    by_cases h : md[i]? = some true
    · rw [if_pos h] at ha; exact rv.ap i a ha
    · rw [if_neg h] at ha; cases ha
  · rename_i st' q
    cases em
    refine ⟨B, F, _, fp, .nx, st', sx, lst, q, fun σ' H' F' fp' g s' p' l' => ?_⟩
    exact k _ H' F' _ [] g (s'.outs lv (by rw [l']; exact hN) hp p') (RV.imm .non)
  · cases em
/-- THE RULE for a def -/
theorem fn_ok {P : Program} {w : World} {K : PySem.W.Frag} {mg : Str → Option Value} {base : Heap} {x qual : Str} {params : Arguments} {body : List Stmt} {scope : Scope} {dvs : List V} {kws : List (Str × V)} {f : Addr} {fd : FuncData} {N ps : List Str} {k : Nat} {md : List Bool} {pn : List Nat} {bm : SM}
    (F : FunD K x qual params body scope dvs kws f fd) (S : FnScope N ps scope) (hmd : md.length = ps.length) (hN : md.length ≤ N.length) (hp : ∀ i, md[i]? = some true → i ∈ pn)
    (hb : ∀ (cdv : Value) (A : Around) (outer : List Env) (s : Shared) (H : Hp) (E : XK), Room k (A.deeper (PyProof.Rows.envOfC qual scope s.heap.objs.size f cdv)) → BS (cxOf CX0 P w K mg base N qual scope f cdv A outer s H E).nox pn body bm) :
    FnOk P w K mg base CX0 (k + 1) f fd ps (spM K md (fnM N.length md bm)) :=
  F.ok S (fun vs H Q E h => (spM_len h).trans hmd) fun cdv A outer s H vs Q E hr h => ⟨_, (hb cdv A outer s H E hr).nox, fn_read hN hp h⟩

/-! ### calls -/
def argsOf : List Bool → List Ar → S → Option (List D)
  | [], [], _ => some []
  | b :: bs, .rf i :: ls, st => match gt st i with
    | some d => match !b && d.own with
      | true => none
      | false => match argsOf bs ls st with
        | some ds => some (d :: ds)
        | none => none
    | none => none
  | b :: bs, .dt d :: ls, st => match !b && d.own with
    | true => none
    | false => match argsOf bs ls st with
      | some ds => some (d :: ds)
      | none => none
  | _, _, _ => none
def rfs : List Ar → List Nat
  | [] => []
  | .rf i :: ls => i :: rfs ls
  | .dt _ :: ls => rfs ls
def afterD : List Bool → List Ar → S → S → S
  | true :: bs, .rf i :: ls, o :: outs, st => afterD bs ls outs (pt st i o)
  | false :: bs, .rf _ :: ls, _ :: outs, st => afterD bs ls outs st
  | _ :: bs, .dt _ :: ls, _ :: outs, st => afterD bs ls outs st
  | _, _, _, st => st
def mCall (md : List Bool) (fm : FM) (am : AM) : EM := fun st => match am st with
  | some (ls, st1) => match decide (rfs ls).Nodup with
    | true => match argsOf md ls st1 with
      | some ds => match fm ds with
        | some (r, outs) => some (r, afterD md ls outs st1)
        | none => none
      | none => none
    | false => none
  | none => none
theorem afterD_len : ∀ (md : List Bool) (ls : List Ar) (outs st : S), (afterD md ls outs st).length = st.length
  | [], _, _, _ => by simp [afterD]
  | _ :: _, [], _, _ => by simp [afterD]
  | _ :: _, .rf i :: ls, [], _ => by simp [afterD]
  | _ :: _, .dt _ :: ls, [], _ => by simp [afterD]
  | true :: bs, .rf i :: ls, o :: outs, st => by
    show (afterD bs ls outs _).length = _
    rw [afterD_len]
    exact pt_length _ _ _
  | false :: bs, .rf i :: ls, o :: outs, st => by
    show (afterD bs ls outs _).length = _
    rw [afterD_len]
  | b :: bs, .dt d :: ls, o :: outs, st => by
    have e : afterD (b :: bs) (.dt d :: ls) (o :: outs) st = afterD bs ls outs st := by cases b <;> rfl
    rw [e, afterD_len]
theorem afterD_out : ∀ {md : List Bool} {ls : List Ar} {outs st : S} {i : Nat}, i ∉ rfs ls → (afterD md ls outs st)[i]? = st[i]?
  | [], _, _, _, _, _ => by simp [afterD]
  | _ :: _, [], _, _, _, _ => by simp [afterD]
  | _ :: _, .rf _ :: ls, [], _, _, _ => by simp [afterD]
  | _ :: _, .dt _ :: ls, [], _, _, _ => by simp [afterD]
  | true :: bs, .rf j :: ls, o :: outs, st, i, h => by
    have h' : i ≠ j ∧ i ∉ rfs ls := by simpa [rfs] using h
    show (afterD bs ls outs _)[i]? = _
    rw [afterD_out h'.2]
    exact pt_ne (Ne.symm h'.1)
  | false :: bs, .rf j :: ls, o :: outs, st, i, h => by
    have h' : i ≠ j ∧ i ∉ rfs ls := by simpa [rfs] using h
    show (afterD bs ls outs _)[i]? = _
    exact afterD_out h'.2
  | b :: bs, .dt d :: ls, o :: outs, st, i, h => by
    have e : afterD (b :: bs) (.dt d :: ls) (o :: outs) st = afterD bs ls outs st := by cases b <;> rfl
    rw [e]
    exact afterD_out h
theorem rfs_mem : ∀ {ls : List Ar} {i : Nat}, i ∈ rfs ls → ∃ j : Nat, ls[j]? = some (.rf i)
  | [], _, h => by cases h
  | .rf k :: ls, i, h => by
    have h' : i = k ∨ i ∈ rfs ls := List.mem_cons.mp h
    rcases h' with e | h
    · exact ⟨0, by rw [e]; rfl⟩
    · obtain ⟨j, e⟩ := rfs_mem h
      exact ⟨j + 1, by simpa using e⟩
  | .dt _ :: ls, i, h => by
    obtain ⟨j, e⟩ := rfs_mem (ls := ls) h
    exact ⟨j + 1, by simpa using e⟩
theorem rfs_of : ∀ {ls : List Ar} {i j : Nat}, ls[j]? = some (.rf i) → i ∈ rfs ls
  | [], _, _, h => by simp at h
  | .rf k :: ls, i, 0, h => by
    have e : k = i := Ar.rf.inj (by simpa using h)
    rw [← e]
    exact List.mem_cons_self
  | .dt _ :: ls, i, 0, h => by simp at h
  | .rf k :: ls, i, j + 1, h => List.mem_cons_of_mem _ (rfs_of (ls := ls) (i := i) (j := j) (by simpa using h))
  | .dt _ :: ls, i, j + 1, h => rfs_of (ls := ls) (i := i) (j := j) (by simpa using h)
theorem rfs_inj : ∀ {ls : List Ar} {i j k : Nat}, (rfs ls).Nodup → ls[j]? = some (.rf i) → ls[k]? = some (.rf i) → j = k
  | [], _, _, _, _, h, _ => by simp at h
  | .rf a :: ls, i, 0, 0, _, _, _ => rfl
  | .rf a :: ls, i, 0, k + 1, nd, h1, h2 => by
    have e : a = i := Ar.rf.inj (by simpa using h1)
    have nd' : a ∉ rfs ls ∧ (rfs ls).Nodup := List.nodup_cons.mp nd
    exact absurd (rfs_of (ls := ls) (j := k) (by simpa using h2)) (e ▸ nd'.1)
  | .rf a :: ls, i, j + 1, 0, nd, h1, h2 => by
    have e : a = i := Ar.rf.inj (by simpa using h2)
    have nd' : a ∉ rfs ls ∧ (rfs ls).Nodup := List.nodup_cons.mp nd
    exact absurd (rfs_of (ls := ls) (j := j) (by simpa using h1)) (e ▸ nd'.1)
  | .rf a :: ls, i, j + 1, k + 1, nd, h1, h2 => by
    have nd' : a ∉ rfs ls ∧ (rfs ls).Nodup := List.nodup_cons.mp nd
    rw [rfs_inj (ls := ls) (i := i) (j := j) (k := k) nd'.2 (by simpa using h1) (by simpa using h2)]
  | .dt a :: ls, i, 0, _, _, h, _ => by simp at h
  | .dt a :: ls, i, _ + 1, 0, _, _, h => by simp at h
  | .dt a :: ls, i, j + 1, k + 1, nd, h1, h2 => by
    rw [rfs_inj (ls := ls) (i := i) (j := j) (k := k) nd (by simpa using h1) (by simpa using h2)]
/-- behind the call, a slot that was handed over -/
theorem afterD_in : ∀ {md : List Bool} {ls : List Ar} {outs st : S} {i j : Nat} {o : Option D} {b : Bool}, (rfs ls).Nodup → ls[j]? = some (.rf i) → outs[j]? = some o → md[j]? = some b → i < st.length →
    (afterD md ls outs st)[i]? = (match b with | true => some o | false => st[i]?)
  | _, [], _, _, _, _, _, _, _, h, _, _, _ => by simp at h
  | _, .rf a :: ls, [], _, _, _, _, _, _, _, h, _, _ => by simp at h
  | _, .dt _ :: ls, [], _, _, _, _, _, _, _, h, _, _ => by simp at h
  | [], .rf a :: ls, _ :: _, _, _, _, _, _, _, _, _, h, _ => by simp at h
  | [], .dt _ :: ls, _ :: _, _, _, _, _, _, _, _, _, h, _ => by simp at h
  | true :: bs, .rf a :: ls, o' :: outs, st, i, 0, o, b, nd, h1, h2, h3, hl => by
    have e : a = i := Ar.rf.inj (by simpa using h1)
    have e2 : o' = o := by simpa using h2
    have e3 : true = b := by simpa using h3
    have nd' : a ∉ rfs ls ∧ (rfs ls).Nodup := List.nodup_cons.mp nd
    rw [← e3, ← e2, ← e]
    show (afterD bs ls outs _)[a]? = some o'
    rw [afterD_out nd'.1]
    exact pt_self (by rw [e]; exact hl)
  | false :: bs, .rf a :: ls, o' :: outs, st, i, 0, o, b, nd, h1, h2, h3, hl => by
    have e : a = i := Ar.rf.inj (by simpa using h1)
    have e3 : false = b := by simpa using h3
    have nd' : a ∉ rfs ls ∧ (rfs ls).Nodup := List.nodup_cons.mp nd
    rw [← e3, ← e]
    show (afterD bs ls outs _)[a]? = st[a]?
    exact afterD_out nd'.1
  | true :: bs, .rf a :: ls, o' :: outs, st, i, j + 1, o, b, nd, h1, h2, h3, hl => by
    have nd' : a ∉ rfs ls ∧ (rfs ls).Nodup := List.nodup_cons.mp nd
    have hm : i ∈ rfs ls := rfs_of (j := j) (by simpa using h1)
    have ne : a ≠ i := fun z => nd'.1 (z ▸ hm)
    show (afterD bs ls outs _)[i]? = _
    rw [afterD_in (j := j) (o := o) (b := b) nd'.2 (by simpa using h1) (by simpa using h2) (by simpa using h3) (by rw [pt_length]; exact hl)]
    cases b with
    | true => rfl
    | false => exact pt_ne ne
  | false :: bs, .rf a :: ls, o' :: outs, st, i, j + 1, o, b, nd, h1, h2, h3, hl => by
    have nd' : a ∉ rfs ls ∧ (rfs ls).Nodup := List.nodup_cons.mp nd
    show (afterD bs ls outs _)[i]? = _
    exact afterD_in (j := j) (o := o) (b := b) nd'.2 (by simpa using h1) (by simpa using h2) (by simpa using h3) hl
  | _ :: bs, .dt _ :: ls, _ :: outs, st, i, 0, o, b, nd, h1, h2, h3, hl => by simp at h1
  | b' :: bs, .dt d :: ls, o' :: outs, st, i, j + 1, o, b, nd, h1, h2, h3, hl => by
    have e : afterD (b' :: bs) (.dt d :: ls) (o' :: outs) st = afterD bs ls outs st := by cases b' <;> rfl
    rw [e]
    exact afterD_in (j := j) (o := o) (b := b) nd (by simpa using h1) (by simpa using h2) (by simpa using h3) hl
/-- the arguments with their footprints, place by place -/
structure Handed (K : PySem.W.Frag) (B F H : Hp) (fp : Nat → List Addr) (md : List Bool) (ls : List Ar) (ds : List D) (vs : List V) (ft : List Addr) (fc : Nat → List Addr) : Prop where
  len : ds.length = vs.length
  lmd : ds.length = md.length
  lls : ds.length = ls.length
  at_ : ∀ j d, ds[j]? = some d → ∃ v, vs[j]? = some v ∧ Ow K B F H d v (fc j)
  out : ∀ j, ds.length ≤ j → fc j = []
  nd : ∀ j, (fc j).Nodup
  dj : ∀ i j a, a ∈ fc i → a ∈ fc j → i = j
  of : ∀ j a, a ∈ fc j → (∃ i, ls[j]? = some (.rf i) ∧ a ∈ fp i) ∨ a ∈ ft
  fr : ∀ j, md[j]? = some false → fc j = []
  rf : ∀ j i, ls[j]? = some (.rf i) → fc j = fp i
theorem handed {K : PySem.W.Frag} {B F H : Hp} {st : S} {σ : L2.St} {fp : Nat → List Addr} (s : SR K B F H st σ fp) : ∀ {md : List Bool} {ls : List Ar} {ds : List D} {vs : List V} {ft : List Addr}, ArV K B F H σ ls vs ft → ft.Nodup → (∀ i, ∀ a ∈ fp i, a ∉ ft) →
    (rfs ls).Nodup → argsOf md ls st = some ds → ∃ fc, Handed K B F H fp md ls ds vs ft fc
  | md, [], ds, _, _, .nil, _, _, _, e => by
    cases md with
    | cons b bs => cases e
    | nil =>
      cases e
      exact ⟨fun _ => [], ⟨rfl, rfl, rfl, (fun j d h => by simp at h), (fun _ _ => rfl), (fun _ => List.nodup_nil), (fun _ _ _ h => by cases h), (fun _ _ h => by cases h), (fun _ _ => rfl), (fun j i h => by simp at h)⟩⟩
  | md, .rf i :: ls, ds, _, _, .rf (v := v) (vs := vs) hv av, nd, ap, nr, e => by
    cases md with
    | nil => cases e
    | cons b bs =>
      unfold argsOf at e
      have nr' : i ∉ rfs ls ∧ (rfs ls).Nodup := by simpa [rfs] using nr
      split at e
      · rename_i d q
        split at e
        · cases e
        · rename_i hb
          split at e
          · rename_i ds' q'
            cases e
            obtain ⟨fc, h⟩ := handed s av nd ap nr'.2 q'
            obtain ⟨w, e1, ow⟩ := s.slot q
            rw [hv] at e1
            cases e1
            refine ⟨fun j => match j with | 0 => fp i | j + 1 => fc j, by simp [h.len], by simp [h.lmd], by simp [h.lls], fun j d' hj => ?_, fun j hj => ?_, fun j => ?_, fun j k a ha hb' => ?_, fun j a ha => ?_, fun j hj => ?_, fun j k hj => ?_⟩
            · cases j with
              | zero =>
                have : d = d' := by simpa using hj
                subst this
                exact ⟨_, rfl, ow⟩
              | succ j => simpa using h.at_ j d' (by simpa using hj)
            · cases j with
              | zero => simp at hj
              | succ j => exact h.out j (by simpa using hj)
            · cases j with
              | zero => exact s.nd i
              | succ j => exact h.nd j
            · cases j with
              | zero =>
                cases k with
                | zero => rfl
                | succ k =>
                  rcases h.of k a hb' with ⟨i', e2, hf⟩ | hf
                  · have : i = i' := s.dj i i' a ha hf
                    subst this
                    exact absurd (rfs_of e2) nr'.1
                  · exact absurd hf (ap i a ha)
              | succ j =>
                cases k with
                | zero =>
                  rcases h.of j a ha with ⟨i', e2, hf⟩ | hf
                  · have : i = i' := s.dj i i' a hb' hf
                    subst this
                    exact absurd (rfs_of e2) nr'.1
                  · exact absurd hf (ap i a hb')
                | succ k => rw [h.dj j k a ha hb']
            · cases j with
              | zero => exact .inl ⟨i, rfl, ha⟩
              | succ j => simpa using h.of j a ha
            · cases j with
              | zero =>
                have : b = false := by simpa using hj
                subst this
                exact (ow.rp (by simpa using hb)).2
              | succ j => exact h.fr j (by simpa using hj)
            · cases j with
              | zero =>
                have e : i = k := Ar.rf.inj (by simpa using hj)
                rw [← e]
              | succ j => exact h.rf j k (by simpa using hj)
          · cases e
      · cases e
  | md, .dt d :: ls, ds, _, _, .dt (v := v) (f := f) (vs := vs) (ft := ft) ow av, nd, ap, nr, e => by
    cases md with
    | nil => cases e
    | cons b bs =>
      unfold argsOf at e
      rw [List.nodup_append] at nd
      split at e
      · cases e
      · rename_i hb
        split at e
        · rename_i ds' q'
          cases e
          obtain ⟨fc, h⟩ := handed s av nd.2.1 (fun i a ha z => ap i a ha (List.mem_append_right _ z)) (by simpa [rfs] using nr) q'
          refine ⟨fun j => match j with | 0 => f | j + 1 => fc j, by simp [h.len], by simp [h.lmd], by simp [h.lls], fun j d' hj => ?_, fun j hj => ?_, fun j => ?_, fun j k a ha hb' => ?_, fun j a ha => ?_, fun j hj => ?_, fun j k hj => ?_⟩
          · cases j with
            | zero =>
              have : d = d' := by simpa using hj
              subst this
              exact ⟨_, rfl, ow⟩
            | succ j => simpa using h.at_ j d' (by simpa using hj)
          · cases j with
            | zero => simp at hj
            | succ j => exact h.out j (by simpa using hj)
          · cases j with
            | zero => exact nd.1
            | succ j => exact h.nd j
          · have apart : ∀ k, a ∈ f → a ∈ fc k → False := fun k h1 h2 => by
              rcases h.of k a h2 with ⟨i', e2, hf⟩ | hf
              · exact ap i' a hf (List.mem_append_left _ h1)
              · exact nd.2.2 a h1 a hf rfl
            cases j with
            | zero =>
              cases k with
              | zero => rfl
              | succ k => exact (apart k ha hb').elim
            | succ j =>
              cases k with
              | zero => exact (apart j hb' ha).elim
              | succ k => rw [h.dj j k a ha hb']
          · cases j with
            | zero => exact .inr (List.mem_append_left _ ha)
            | succ j =>
              rcases h.of j a ha with q | q
              · exact .inl (by simpa using q)
              · exact .inr (List.mem_append_right _ q)
          · cases j with
            | zero =>
              have : b = false := by simpa using hj
              subst this
              exact (ow.rp (by simpa using hb)).2
            | succ j => exact h.fr j (by simpa using hj)
          · cases j with
            | zero => simp at hj
            | succ j => exact h.rf j k (by simpa using hj)
        · cases e
theorem ArV.at_ {K : PySem.W.Frag} {B F H : Hp} {σ : L2.St} : ∀ {ls : List Ar} {vs : List V} {ft : List Addr} {i j : Nat}, ArV K B F H σ ls vs ft → ls[j]? = some (.rf i) → ∃ w, σ[i]? = some (some w) ∧ vs[j]? = some w
  | _, _, _, _, _, .nil, h => by simp at h
  | _, _, _, _, 0, .rf (i := i0) e1 av, h => by
    have e : i0 = _ := Ar.rf.inj (by simpa using h)
    rw [← e]
    exact ⟨_, e1, rfl⟩
  | _, _, _, _, 0, .dt _ av, h => by simp at h
  | _, _, _, i, j + 1, .rf e1 av, h => by
    obtain ⟨w, h1, h2⟩ := ArV.at_ (i := i) (j := j) av (by simpa using h)
    exact ⟨w, h1, by simpa using h2⟩
  | _, _, _, i, j + 1, .dt _ av, h => by
    obtain ⟨w, h1, h2⟩ := ArV.at_ (i := i) (j := j) av (by simpa using h)
    exact ⟨w, h1, by simpa using h2⟩
/-- from where the arguments have come to behind the call -/
theorem call_read {K : PySem.W.Frag} {md : List Bool} {fm : FM} {am : AM} {σ : L2.St} {H : Hp} {Q : VK} (h : tM K (mCall md fm am) σ H Q) : tA K am σ H fun vs H1 => spM K md fm vs H1 Q E0 := by
  obtain ⟨B, F, st, fp, r, st', s, em, k⟩ := h
  unfold mCall at em
  split at em
  · rename_i ls st1 q1
    split at em
    · rename_i hnd
      split at em
      · rename_i ds q2
        split at em
        · rename_i r9 outs q3
          cases em
          refine ⟨B, F, st, fp, ls, st1, s, q1, fun vs H1 F1 fp1 ft g1 s1 av nd ap => ?_⟩
          have nr : (rfs ls).Nodup := of_decide_eq_true hnd
          obtain ⟨fc, hd⟩ := handed s1 av nd ap nr q2
          have l1 : ds.length = vs.length := hd.len
          -- what is handed over
          have held : ∀ j a, a ∈ fc j → H1 a ≠ none ∧ F1 a = none ∧ B a = none := fun j a ha => by
            by_cases hj : j < ds.length
            · obtain ⟨v, e1, ow⟩ := hd.at_ j _ (List.getElem?_eq_getElem hj)
              exact Ow.mem _ _ _ ow a ha
            · rw [hd.out j (by omega)] at ha; cases ha
          let Bc : Hp := fun a => if a ∈ (List.range ds.length).flatMap fc then none else H1 a
          have inP : ∀ {a : Addr}, a ∈ (List.range ds.length).flatMap fc ↔ ∃ j, a ∈ fc j := fun {a} => by
            rw [List.mem_flatMap]
            constructor
            · rintro ⟨j, _, hj⟩; exact ⟨j, hj⟩
            · rintro ⟨j, hj⟩
              refine ⟨j, List.mem_range.mpr ?_, hj⟩
              by_cases hl : j < ds.length
              · exact hl
              · rw [hd.out j (by omega)] at hj; cases hj
          have bcIn : ∀ {a : Addr} {j : Nat}, a ∈ fc j → Bc a = none := fun {a j} ha => if_pos (inP.mpr ⟨j, ha⟩)
          have bcOut : ∀ {a : Addr}, (∀ j, a ∉ fc j) → Bc a = H1 a := fun {a} ha => if_neg fun z => (inP.mp z).elim ha
          have bcNone : ∀ {a : Addr}, Bc a = none → B a = none := fun {a} z => by
            by_cases hp : ∃ j, a ∈ fc j
            · obtain ⟨j, hj⟩ := hp
              exact (held j a hj).2.2
            · rw [bcOut fun j hj => hp ⟨j, hj⟩] at z
              exact sub_none s1.bh z
          have bcSub : Same Bc H1 := fun a o e => by
            by_cases hp : ∃ j, a ∈ fc j
            · obtain ⟨j, hj⟩ := hp
              rw [bcIn hj] at e; cases e
            · rw [bcOut fun j hj => hp ⟨j, hj⟩] at e
              exact e
          refine ⟨Bc, F1, ds, fc, r, outs, ?_, hd.lmd, hd.fr, q3, fun v H' F' fp' fv g' s' rv => ?_⟩
          · refine ⟨by rw [List.length_map, List.length_map]; exact l1, bcSub, s1.fh, fun j d' e => ?_, fun j e => ?_, hd.nd, hd.dj⟩
            · rw [List.getElem?_map] at e
              obtain ⟨d'', e1, e2⟩ := Option.map_eq_some_iff.mp e
              cases e2
              obtain ⟨v, e3, ow⟩ := hd.at_ j d' e1
              refine ⟨v, by rw [List.getElem?_map, e3]; rfl, ow.frame (.refl _) d' v _ (fun _ _ => rfl) (fun a ha => (held j a ha).2.1) fun a ha => bcIn ha⟩
            · by_cases hj : j < ds.length
              · exact absurd (by rw [List.getElem?_map, List.getElem?_eq_getElem hj]; rfl) (e ds[j])
              · exact hd.out j (by omega)
          · -- a slot that was not handed over stands as it stood
            have keep : ∀ {i : Nat} {a : Addr}, i ∉ rfs ls → a ∈ fp1 i → ∀ j, a ∉ fc j := fun {i a} hi ha j hj => by
              rcases hd.of j a hj with ⟨i', e2, hf⟩ | hf
              · have : i = i' := s1.dj i i' a ha hf
                subst this
                exact hi (rfs_of e2)
              · exact ap i a ha hf
            have bcK : ∀ {i : Nat} {a : Addr}, i ∉ rfs ls → a ∈ fp1 i → Bc a ≠ none := fun {i a} hi ha => by
              rw [bcOut (keep hi ha)]
              exact (s1.hold ha).1
            -- the new footprints
            have lo : outs.length = vs.length := by rw [s'.len, List.length_map]
            let pos : Nat → Option Nat := fun i => (List.range ls.length).find? fun j => match ls[j]? with
              | some (Ar.rf i') => decide (i' = i)
              | _ => false
            have posIn : ∀ {i j : Nat}, ls[j]? = some (.rf i) → pos i = some j := fun {i j} e => by
              have hj : j < ls.length := (List.getElem?_eq_some_iff.mp e).1
              cases q : pos i with
              | none =>
                have := List.find?_eq_none.mp q j (List.mem_range.mpr hj)
                rw [e] at this
                simp at this
              | some j' =>
                have h2 := List.find?_some q
                split at h2
                · rename_i i' e2
                  have : i' = i := of_decide_eq_true h2
                  subst this
                  rw [rfs_inj nr e e2]
                · cases h2
            have posOut : ∀ {i : Nat}, i ∉ rfs ls → pos i = none := fun {i} hi => by
              cases q : pos i with
              | none => rfl
              | some j' =>
                have h2 := List.find?_some q
                split at h2
                · rename_i i' e2
                  have : i' = i := of_decide_eq_true h2
                  subst this
                  exact absurd (rfs_of e2) hi
                · cases h2
            let f2 : Nat → List Addr := fun i => match pos i with
              | some j => if md[j]? = some true then fp' j else []
              | none => fp1 i
            have f2In : ∀ {i j : Nat}, ls[j]? = some (.rf i) → md[j]? = some true → f2 i = fp' j := fun {i j} e e2 => by
              show (match pos i with | some j => if md[j]? = some true then fp' j else [] | none => fp1 i) = _
              rw [posIn e]
              exact if_pos e2
            have f2No : ∀ {i j : Nat}, ls[j]? = some (.rf i) → md[j]? = some false → f2 i = [] := fun {i j} e e2 => by
              show (match pos i with | some j => if md[j]? = some true then fp' j else [] | none => fp1 i) = _
              rw [posIn e]
              exact if_neg fun z => by rw [e2] at z; cases z
            have f2Out : ∀ {i : Nat}, i ∉ rfs ls → f2 i = fp1 i := fun {i} hi => by
              show (match pos i with | some j => if md[j]? = some true then fp' j else [] | none => fp1 i) = _
              rw [posOut hi]
            have cases2 : ∀ i, (∃ j : Nat, ls[j]? = some (Ar.rf i) ∧ md[j]? = some true) ∨ (∃ j : Nat, ls[j]? = some (Ar.rf i) ∧ md[j]? = some false) ∨ i ∉ rfs ls := fun i => by
              by_cases hi : i ∈ rfs ls
              · obtain ⟨j, hj⟩ := rfs_mem hi
                have hjl : j < md.length := by rw [← hd.lmd, hd.lls]; exact (List.getElem?_eq_some_iff.mp hj).1
                cases q : md[j] with
                | true => exact .inl ⟨j, hj, by rw [List.getElem?_eq_getElem hjl, q]⟩
                | false => exact .inr (.inl ⟨j, hj, by rw [List.getElem?_eq_getElem hjl, q]⟩)
              · exact .inr (.inr hi)
            have fresh : ∀ {j : Nat} {a : Addr}, a ∈ fp' j → Bc a = none := fun {j a} ha => (s'.hold ha).2.2
            -- the value at a slot that was handed over
            have eσ : ∀ {i j : Nat}, ls[j]? = some (.rf i) → ∃ w, σ[i]? = some (some w) ∧ vs[j]? = some w := fun {i j} hj => ArV.at_ av hj
            have eo : ∀ {i j : Nat}, ls[j]? = some (.rf i) → ∃ o, outs[j]? = some o := fun {i j} hj => ⟨_, List.getElem?_eq_getElem (by rw [lo, ← l1, hd.lls]; exact (List.getElem?_eq_some_iff.mp hj).1)⟩
            have hil : ∀ {i j : Nat}, ls[j]? = some (.rf i) → i < st1.length := fun {i j} hj => by
              obtain ⟨w, e1, _⟩ := eσ hj
              rw [s1.len]; exact (List.getElem?_eq_some_iff.mp e1).1
            refine k v H' F' f2 fv (g1.trans ⟨g'.ex, fun a n => g'.at_ a fun z => n (bcNone z)⟩) ⟨?_, fun a o e => ?_, s'.fh, fun i d' e => ?_, fun i e => ?_, fun i => ?_, fun i i' a ha hb => ?_⟩ ⟨?_, rv.nd, fun i a ha z => ?_⟩
            · rw [afterD_len]; exact s1.len
            · refine s'.bh a o ?_
              rw [bcOut fun j hj => by rw [(held j a hj).2.2] at e; cases e]
              exact s1.bh a o e
            · rcases cases2 i with ⟨j, hj, hm⟩ | ⟨j, hj, hm⟩ | hi
              · obtain ⟨w, e1, e2⟩ := eσ hj
                obtain ⟨o, eo⟩ := eo hj
                rw [afterD_in nr hj eo hm (hil hj)] at e
                refine ⟨w, e1, ?_⟩
                rw [f2In hj hm]
                have e' : o = some d' := by simpa using e
                subst e'
                obtain ⟨w', e3, ow'⟩ := s'.sl j d' eo
                rw [List.getElem?_map, e2] at e3
                cases e3
                exact ow'.frame (.refl _) d' w _ (fun _ _ => rfl) (fun a ha => (s'.hold ha).2.1) fun a ha => bcNone (fresh ha)
              · obtain ⟨o, eo⟩ := eo hj
                rw [afterD_in nr hj eo hm (hil hj)] at e
                obtain ⟨w', e3, ow'⟩ := s1.sl i d' e
                refine ⟨w', e3, ?_⟩
                rw [f2No hj hm]
                have z : fp1 i = [] := by rw [← hd.rf j i hj]; exact hd.fr j hm
                rw [z] at ow'
                cases ow' with
                | imm r => exact .imm (Rp.mono g'.ex _ _ r)
              · rw [afterD_out hi] at e
                obtain ⟨w, e1, ow⟩ := s1.sl i d' e
                refine ⟨w, e1, ?_⟩
                rw [f2Out hi]
                refine ow.frame g'.ex d' w _ (fun a ha => ?_) (fun a ha => ?_) fun a ha => (s1.hold ha).2.2
                · cases q : H1 a with
                  | none => exact absurd q (s1.hold ha).1
                  | some o => exact s'.bh a o (by rw [bcOut (keep hi ha)]; exact q)
                · rw [g'.at_ a (bcK hi ha)]
                  exact (s1.hold ha).2.1
            · rcases cases2 i with ⟨j, hj, hm⟩ | ⟨j, hj, hm⟩ | hi
              · rw [f2In hj hm]
                obtain ⟨o, eo⟩ := eo hj
                refine s'.em j fun d z => e d ?_
                rw [afterD_in nr hj eo hm (hil hj), ← eo, z]
              · rw [f2No hj hm]
              · rw [f2Out hi]
                refine s1.em i fun d z => e d ?_
                rw [afterD_out hi]
                exact z
            · rcases cases2 i with ⟨j, hj, hm⟩ | ⟨j, hj, hm⟩ | hi
              · rw [f2In hj hm]; exact s'.nd j
              · rw [f2No hj hm]; exact List.nodup_nil
              · rw [f2Out hi]; exact s1.nd i
            · rcases cases2 i with ⟨j, hj, hm⟩ | ⟨j, hj, hm⟩ | hi
              · rcases cases2 i' with ⟨j', hj', hm'⟩ | ⟨j', hj', hm'⟩ | hi'
                · rw [f2In hj hm] at ha
                  rw [f2In hj' hm'] at hb
                  have e := s'.dj j j' a ha hb
                  subst e
                  rw [hj] at hj'
                  cases hj'
                  rfl
                · rw [f2No hj' hm'] at hb; cases hb
                · rw [f2In hj hm] at ha
                  rw [f2Out hi'] at hb
                  exact absurd (fresh ha) (bcK hi' hb)
              · rw [f2No hj hm] at ha; cases ha
              · rcases cases2 i' with ⟨j', hj', hm'⟩ | ⟨j', hj', hm'⟩ | hi'
                · rw [f2Out hi] at ha
                  rw [f2In hj' hm'] at hb
                  exact absurd (fresh hb) (bcK hi ha)
                · rw [f2No hj' hm'] at hb; cases hb
                · rw [f2Out hi] at ha
                  rw [f2Out hi'] at hb
                  exact s1.dj i i' a ha hb
            · refine rv.ow.frame (.refl _) r v fv (fun _ _ => rfl) (fun a ha => (Ow.mem r v fv rv.ow a ha).2.1) fun a ha => bcNone (Ow.mem r v fv rv.ow a ha).2.2
            · rcases cases2 i with ⟨j, hj, hm⟩ | ⟨j, hj, hm⟩ | hi
              · rw [f2In hj hm] at ha
                exact rv.ap j a ha z
              · rw [f2No hj hm] at ha; cases ha
              · rw [f2Out hi] at ha
                exact bcK hi ha (Ow.mem r v fv rv.ow a z).2.2
        · cases em
      · cases em
    · cases em
  · cases em

section
variable {X : Cx} {x : Str} {f : Addr} {fd : FuncData} {ps : List Str} {k : Nat} {md : List Bool} {fm : FM} {am : AM} {e : Expr} {es : List Expr} {p pos : Pos} {hv : Bool}
theorem j_call (F : FnOk X.prog X.w X.K X.mg X.base CX0 k f fd ps (spM X.K md fm)) (hr : Room k X.A) (hg : Gl X x) (hm : X.mg x = some (.ref f)) (hk : PySem.W.keepIn X.K (.ref f) = true) (hb : Binds X.K fd ps [])
    (ha : AE X (e :: es) am) (hdb : (x == ("__debug__" : Str)) = false := by decide) (he : starEach (e :: es) X.env = (false, eval e X.env) :: starEach es X.env := by rfl) (hpl : (backTo pos (starEach es X.env)).any (·.1) = false := by rfl) :
    ME X (.Call (.Name x p) (e :: es) [] pos) (mCall md fm am) :=
  PE.mono (pe_call F hr hg hm hk hb .nil pass0 ha hdb he hpl) fun σ H Q h => by
    show tA X.K am σ H fun vs H1 => spM X.K md fm (vs ++ []) H1 Q E0
    rw [show (fun vs H1 => spM X.K md fm (vs ++ []) H1 Q E0) = fun vs H1 => spM X.K md fm vs H1 Q E0 from funext fun vs => by rw [List.append_nil]]
    exact call_read h
/-- no argument -/
theorem j_call0 (F : FnOk X.prog X.w X.K X.mg X.base CX0 k f fd ps (spM X.K [] fm)) (hr : Room k X.A) (hg : Gl X x) (hm : X.mg x = some (.ref f)) (hk : PySem.W.keepIn X.K (.ref f) = true) (hb : Binds X.K fd ps []) (hdb : (x == ("__debug__" : Str)) = false := by decide) :
    ME X (.Call (.Name x p) [] [] pos) (mCall [] fm aNil) :=
  PE.mono (pe_call0 F hr hg hm hk hb .nil pass0 hdb) fun σ H Q h => by
    obtain ⟨B, F, st, fp, ls, st', s, em, k⟩ := call_read h
    cases em
    exact k [] H F fp [] Gr.refl s .nil List.nodup_nil fun _ _ _ z => by cases z
end
end MP

/-! MPB: defs by name. -/
namespace MP
open PySem L2

/-- a def of the module, known by its denotation -/
structure CalD (P : Program) (w : World) (K : PySem.W.Frag) (mg : Str → Option Value) (base : Heap) (k : Nat) (x : Str) (ps : List Str) (md : List Bool) (fm : FM) : Prop where
  ex : ∃ f fd, FnOk P w K mg base CX0 k f fd ps (spM K md fm) ∧ mg x = some (.ref f) ∧ PySem.W.keepIn K (.ref f) = true ∧ Binds K fd ps []
section
variable {X : Cx} {x : Str} {f : Addr} {fd : FuncData} {ps : List Str} {j k : Nat} {md : List Bool} {fm : FM} {am : AM} {e : Expr} {es : List Expr} {p pos : Pos} {hv : Bool}
theorem j_cal (C : CalD X.prog X.w X.K X.mg X.base k x ps md fm) (hr : Room j X.A) (ha : AE X (e :: es) am) (hk : k ≤ j := by decide) (hg : Gl X x := by rfl)
    (hdb : (x == ("__debug__" : Str)) = false := by decide) (he : starEach (e :: es) X.env = (false, eval e X.env) :: starEach es X.env := by rfl) (hpl : (backTo pos (starEach es X.env)).any (·.1) = false := by rfl) :
    ME X (.Call (.Name x p) (e :: es) [] pos) (mCall md fm am) := by
  obtain ⟨f, fd, F, hm, hkp, hb⟩ := C.ex
  exact j_call F (hr.mono hk) hg hm hkp hb ha hdb he hpl
theorem j_cal0 (C : CalD X.prog X.w X.K X.mg X.base k x ps [] fm) (hr : Room j X.A) (hk : k ≤ j := by decide) (hg : Gl X x := by rfl) (hdb : (x == ("__debug__" : Str)) = false := by decide) :
    ME X (.Call (.Name x p) [] [] pos) (mCall [] fm aNil) := by
  obtain ⟨f, fd, F, hm, hkp, hb⟩ := C.ex
  exact j_call0 F (hr.mono hk) hg hm hkp hb hdb
end
section
variable {P : Program} {w : World} {K : PySem.W.Frag} {mg : Str → Option Value} {base : Heap} {x : Str} {params : Arguments} {body : List Stmt} {scope : Scope} {f : Addr} {fd : FuncData} {N ps : List Str} {k : Nat} {md : List Bool} {pn : List Nat} {bm : SM}
/-- a def whose names are not rebound where they are handed over by reference -/
theorem CalD.of (F : FunD K x x params body scope [] [] f fd) (g : mg x = some (.ref f)) (S : FnScope N ps scope)
    (bn : ∀ (kV doc pm : Value) (an : Option Addr) (cdv ct : Value) (us : List Value), us.length = ps.length → bindArgs (PySem.W.fnOf x x params body scope .none kV doc pm an cdv ct) ⟨us, []⟩ = pure (ps.zip us))
    (hb : ∀ (cdv : Value) (A : Around) (outer : List Env) (s : Shared) (H : Hp) (E : XK), Room k (A.deeper (PyProof.Rows.envOfC x scope s.heap.objs.size f cdv)) → BS (cxOf CX0 P w K mg base N x scope f cdv A outer s H E).nox pn body bm)
    (hmd : md.length = ps.length := by rfl) (hN : (decide (md.length ≤ N.length) && (List.range md.length).all fun i => !(md[i]?.getD false) || pn.contains i) = true := by rfl) :
    CalD P w K mg base (k + 1) x ps md (fnM N.length md bm) := by
  rw [Bool.and_eq_true, decide_eq_true_eq, List.all_eq_true] at hN
  refine ⟨f, fd, fn_ok F S hmd hN.1 (fun i hi => ?_) hb, g, F.kp, F.bindsN bn⟩
  have := hN.2 i (List.mem_range.mpr (List.getElem?_eq_some_iff.mp hi).1)
  rw [hi] at this
  simpa using this
theorem FnD.of (F : FunD K x x params body scope [] [] f fd) (S : FnScope N ps scope)
    (hb : ∀ (cdv : Value) (A : Around) (outer : List Env) (s : Shared) (H : Hp) (E : XK), Room k (A.deeper (PyProof.Rows.envOfC x scope s.heap.objs.size f cdv)) → BS (cxOf CX0 P w K mg base N x scope f cdv A outer s H E).nox pn body bm)
    (hmd : md.length = ps.length := by rfl) (hN : (decide (md.length ≤ N.length) && (List.range md.length).all fun i => !(md[i]?.getD false) || pn.contains i) = true := by rfl) :
    FnOk P w K mg base CX0 (k + 1) f fd ps (spM K md (fnM N.length md bm)) := by
  rw [Bool.and_eq_true, decide_eq_true_eq, List.all_eq_true] at hN
  refine fn_ok F S hmd hN.1 (fun i hi => ?_) hb
  have := hN.2 i (List.mem_range.mpr (List.getElem?_eq_some_iff.mp hi).1)
  rw [hi] at this
  simpa using this
/-- a def that calls itself: nothing is said of depth 0 -/
theorem CalD.zero (F : FunD K x x params body scope [] [] f fd) (g : mg x = some (.ref f))
    (bn : ∀ (kV doc pm : Value) (an : Option Addr) (cdv ct : Value) (us : List Value), us.length = ps.length → bindArgs (PySem.W.fnOf x x params body scope .none kV doc pm an cdv ct) ⟨us, []⟩ = pure (ps.zip us)) :
    CalD P w K mg base 0 x ps md (fun _ => none) :=
  ⟨f, fd, FnOk.mk (fun vs H Q E h => by obtain ⟨B, F, ds, fp, r, outs, s, hl, _, em, _⟩ := h; cases em) (fun A outer s H args us vs Q E hr he hb hv h => by obtain ⟨B, F, ds, fp, r, outs, s, hl, _, em, _⟩ := h; cases em), g, F.kp, F.bindsN bn⟩
theorem CalD.mono {fm : FM} {j : Nat} (C : CalD P w K mg base j x ps md fm) (h : j ≤ k) : CalD P w K mg base k x ps md fm := by
  obtain ⟨f, fd, F, r⟩ := C.ex
  exact ⟨f, fd, F.mono h, r⟩
end
end MP

/-! MPC: walks over a list that one slot holds alone, the slot set aside meanwhile. -/
namespace MP
open PySem L2

/-- more slots pinned than asked -/
theorem tS.more {K : PySem.W.Frag} {n : Nat} {pn pn' : List Nat} {m : SM} {D : Ends} {σ : L2.St} {H : Hp} (h : ∀ i ∈ pn, i ∈ pn') (q : tS K n pn m D σ H) : tS K n pn' m D σ H := by
  obtain ⟨B, F, st, fp, fl, st', s, hl, em, k⟩ := q
  exact ⟨B, F, st, fp, fl, st', s, hl, em, fun σ' H' F' fp' g s' p' l' => k σ' H' F' fp' g s' (fun i hi => p' i (h i hi)) l'⟩
theorem tG.more {K : PySem.W.Frag} {n : Nat} {pn pn' : List Nat} {m : GM} {v : V} {σ : L2.St} {H : Hp} {Q : L2.St → Hp → Prop} (h : ∀ i ∈ pn, i ∈ pn') (q : tG K n pn m v σ H Q) : tG K n pn' m v σ H Q := by
  obtain ⟨B, F, st, fp, d, st', s, hl, r, em, k⟩ := q
  exact ⟨B, F, st, fp, d, st', s, hl, r, em, fun σ' fp' s' p' l' => k σ' fp' s' (fun i hi => p' i (h i hi)) l'⟩
section
variable {X : Cx} {pn : List Nat} {e a b tg : Expr} {m : EM} {pos p : Pos}
theorem BS.less {body : List Stmt} {bm : SM} {pn' : List Nat} (hb : BS X pn' body bm) (h : ∀ i ∈ pn, i ∈ pn') : BS X pn body bm := PSs.mono hb fun D σ H q => tS.more h q
theorem GE.less {g : GM} {pn' : List Nat} (hb : GE X pn' tg g) (h : ∀ i ∈ pn, i ∈ pn') : GE X pn tg g := PG.mono hb fun v σ H Q q => tG.more h q
def ownL (o : Option D) : Option (List D) := match o with
  | some (.lst true ds) => match plain ds with
    | true => some ds
    | false => none
  | _ => none
theorem ownL_eq {o : Option D} {ds : List D} (h : ownL o = some ds) : o = some (.lst true ds) ∧ plain ds = true := by
  unfold ownL at h
  split at h
  · split at h
    · cases h; exact ⟨rfl, by assumption⟩
    · cases h
  · cases h
/-- for .. in a name -/
def mForB (i : Nat) (tg : GM) (body : SM) : SM := fun st => match ownL (gt st i) with
  | some ds => match forGo tg body ds (pt st i none) with
    | some (fl, st2) => match gt st2 i with
      | none => some (fl, pt st2 i (some (.lst true ds)))
      | some _ => none
    | none => none
  | none => mFor (wSq (mNm i)) tg body st
/-- a slot's list set aside -/
theorem SR.aside {K : PySem.W.Frag} {B F H : Hp} {st : S} {σ : L2.St} {fp : Nat → List Addr} {i : Nat} {ds : List D} (s : SR K B F H st σ fp) (e : gt st i = some (.lst true ds)) (p : plain ds = true) :
    ∃ c vs, σ[i]? = some (some (.ref c)) ∧ H c = some (.lst vs) ∧ Rps K F ds vs ∧ (∀ a ∈ [c], H a ≠ none ∧ F a = none ∧ B a = none) ∧ SR K (bg B H [c]) F H (pt st i none) σ (fun j => if j = i then [] else fp j) := by
  obtain ⟨v, e1, o⟩ := s.slot e
  obtain ⟨c, vs, fs, rfl, ef, hc, fc, bc, ows⟩ := ow_own o
  obtain ⟨rs, rfl⟩ := ows.rps p
  refine ⟨c, vs, e1, hc, rs, fun a ha => ?_, (s.drop i).park fun j a ha z => ?_⟩
  · have e : a = c := by simpa using ha
    subst e
    exact ⟨by rw [hc]; simp, fc, bc⟩
  · have e : a = c := by simpa using z
    subst e
    by_cases hj : j = i
    · rw [if_pos hj] at ha; cases ha
    · rw [if_neg hj] at ha
      exact hj (s.dj j i a ha (by rw [ef]; exact List.mem_cons_self))
/-- .. and taken back -/
theorem SR.again {K : PySem.W.Frag} {B F F' H H' : Hp} {st' : S} {σ' : L2.St} {fp' : Nat → List Addr} {i : Nat} {ds : List D} {c : Addr} {vs : List V} (s : SR K (bg B H [c]) F' H' st' σ' fp') (g : Gr (bg B H [c]) F F') (m : ∀ a ∈ [c], H a ≠ none ∧ F a = none ∧ B a = none) (bh : Same B H)
    (hc : H c = some (.lst vs)) (rs : Rps K F ds vs) (e : σ'[i]? = some (some (.ref c))) (n : gt st' i = none) : ∃ fp2, SR K B F' H' (pt st' i (some (.lst true ds))) σ' fp2 ∧ Gr B F F' ∧ (∀ j a, a ∈ fp2 j → a ∈ fp' j ∨ a = c) := by
  obtain ⟨su, gu, hu, au⟩ := s.unpark g m bh
  obtain ⟨h1, h2⟩ := hu c List.mem_cons_self
  have hc' : H' c = some (.lst vs) := by rw [h1]; exact hc
  refine ⟨_, su.tell (i := i) (d := .lst true ds) (fv := [c]) e ⟨.lst hc' h2 (m c List.mem_cons_self).2.2 (Ows.of (Rps.mono gu.ex _ _ rs)), by simp, fun j a ha z => ?_⟩, gu, fun j a ha => ?_⟩
  · by_cases hj : j = i
    · rw [if_pos hj] at ha; cases ha
    · rw [if_neg hj] at ha
      exact au j a ha z
  · by_cases hj : j = i
    · rw [if_pos hj] at ha; exact .inr (by simpa using ha)
    · rw [if_neg hj] at ha; exact .inl ha
theorem s_forB {i : Nat} {iter : Expr} {body : List Stmt} {g : GM} {bm : SM} (hp : PassesOwn (model X.prog X.w) X.A X.env X.xe) (hc : X.calm = true) (hi : PE X iter (tVar i)) (hg : GE X (i :: pn) tg g) (hb : BS X (i :: pn) body bm)
    (hs : ∀ x, foldedSetIterable iter X.env x = pure x := by intro _; rfl) : SE X pn (.For tg iter body [] pos) (mForB i g bm) := by
  have sub : ∀ j ∈ pn, j ∈ i :: pn := fun j hj => List.mem_cons_of_mem _ hj
  have old : SE X pn (.For tg iter body [] pos) (mFor (wSq (mNm i)) g bm) := s_for hp hc (w_sq (j_nm hi)) (GE.less hg sub) (BS.less hb sub) hs
  refine ⟨fun pins s σ H D I q => ?_⟩
  obtain ⟨B, F, st, fp, fl, st', s0, hl, em, k⟩ := q
  unfold mForB at em
  split at em
  · rename_i ds q0
    obtain ⟨q0, pl⟩ := ownL_eq q0
    split at em
    · rename_i fl2 st2 q1
      split at em
      · rename_i q2
        cases em
        refine (PS.mono (ps_for hp hc (pi_seq hi) hg hb hs) fun D σ H q => q).run pins s σ H D I ?_
        obtain ⟨c, vs, e1, hc0, rs, mm, sp⟩ := s0.aside q0 pl
        refine ⟨_, e1, c, rfl, .inl ⟨vs, SqL.of hc0, ?_⟩⟩
        have l1 : (pt st i none).length = X.N.length := by rw [pt_length]; exact hl
        -- what the state behind gives
        have done : ∀ {σ7 : L2.St} {H7 F7 : Hp} {fp7 : Nat → List Addr}, SR X.K (bg B H [c]) F7 H7 st2 σ7 fp7 → Gr (bg B H [c]) F F7 → (∀ j ∈ i :: pn, σ7[j]? = σ[j]?) → ∃ fp8, SR X.K B F7 H7 (pt st2 i (some (.lst true ds))) σ7 fp8 ∧ Gr B F F7 ∧ (∀ j a, a ∈ fp8 j → a ∈ fp7 j ∨ a = c) := fun {σ7 H7 F7 fp7} s7 g7 p7 =>
          s7.again g7 mm s0.bh hc0 rs ((p7 i List.mem_cons_self).trans e1) q2
        have at0 : ∀ {F2 H2 : Hp} {st2 : S} {σ2 : L2.St} {fp2 : Nat → List Addr}, SR X.K (bg B H [c]) F2 H2 st2 σ2 fp2 → H2 c = some (.lst vs) := fun s2 => s2.bh c _ (by rw [bg_in List.mem_cons_self]; exact hc0)
        refine ⟨fun j m σ2 H2 => ∃ F2 st3 fp2, SR X.K (bg B H [c]) F2 H2 st3 σ2 fp2 ∧ Gr (bg B H [c]) F F2 ∧ (∀ j ∈ i :: pn, σ2[j]? = σ[j]?) ∧ st3.length = X.N.length ∧ j ≤ ds.length ∧ m = ds.length - j ∧ forGo g bm (ds.drop j) st3 = some (fl, st2),
          ⟨ds.length, F, pt st i none, _, sp, .refl, fun _ _ => rfl, l1, Nat.zero_le _, rfl, by rw [List.drop_zero]; exact q1⟩, ?_⟩
        rintro j m σ2 H2 ⟨F2, st3, fp2, s2, g2, p2, l2, hi2, rfl, em2⟩
        have hc2 := at0 s2
        have lds : ds.length = vs.length := rs.length
        by_cases hlt : j < ds.length
        · have ed : ds[j]? = some ds[j] := List.getElem?_eq_getElem hlt
          obtain ⟨v, ev, rv⟩ := rs.get ed
          rw [List.drop_eq_getElem_cons hlt] at em2
          unfold forGo at em2
          split at em2
          · rename_i st4 q3
            refine .inr ⟨⟨vs, v, SqL.of hc2, ev⟩, fun σ4 H4 => ∃ F4 st4 fp4, SR X.K (bg B H [c]) F4 H4 st4 σ4 fp4 ∧ Gr (bg B H [c]) F F4 ∧ (∀ j ∈ i :: pn, σ4[j]? = σ[j]?) ∧ st4.length = X.N.length ∧ forGo g bm (ds.drop (j + 1)) st4 = some (fl, st2),
              fun σ4 H4 ⟨F4, st4, fp4, s4, g4, p4, l4, em4⟩ => ⟨ds.length - (j + 1), by omega, F4, st4, fp4, s4, g4, p4, l4, by omega, rfl, em4⟩, fun x H' y => ?_⟩
            obtain ⟨rfl, y⟩ := y
            have := (y vs (SqL.of hc2)).symm.trans ev
            cases this
            have rx : Rp X.K F2 ds[j] _ := Rp.mono g2.ex _ _ rv
            refine ⟨bg B H [c], F2, st3, fp2, _, st4, s2, l2, rx, q3, fun σ5 fp5 s5 p5 l5 => ?_⟩
            have pp : ∀ j ∈ i :: pn, σ5[j]? = σ[j]? := fun j hj => (p5 j hj).trans (p2 j hj)
            split at em2
            · rename_i st6 q6
              exact ⟨bg B H [c], F2, st4, fp5, .nx, st6, s5, l5, q6, fun σ7 H7 F7 fp7 g7 s7 p7 l7 => ⟨F7, st6, fp7, s7, g2.trans g7, fun j hj => (p7 j hj).trans (pp j hj), l7, em2⟩⟩
            · rename_i st6 q6
              exact ⟨bg B H [c], F2, st4, fp5, .ct, st6, s5, l5, q6, fun σ7 H7 F7 fp7 g7 s7 p7 l7 => ⟨F7, st6, fp7, s7, g2.trans g7, fun j hj => (p7 j hj).trans (pp j hj), l7, em2⟩⟩
            · rename_i st6 q6
              cases em2
              refine ⟨bg B H [c], F2, st4, fp5, .bk, _, s5, l5, q6, fun σ7 H7 F7 fp7 g7 s7 p7 l7 => ?_⟩
              obtain ⟨fp8, s8, g8, _⟩ := done s7 (g2.trans g7) fun j hj => (p7 j hj).trans (pp j hj)
              exact k σ7 H7 F7 fp8 g8 s8 (fun j hj => (p7 j (sub j hj)).trans (pp j (sub j hj))) (by rw [pt_length]; exact l7)
            · rename_i d6 st6 q6
              cases em2
              refine ⟨bg B H [c], F2, st4, fp5, .rt d6, _, s5, l5, q6, fun σ7 H7 F7 fp7 g7 s7 p7 l7 => ?_⟩
              obtain ⟨fp8, s8, g8, a8⟩ := done s7 (g2.trans g7) fun j hj => (p7 j hj).trans (pp j hj)
              intro v fv rv'
              obtain ⟨ow, ap⟩ := rv'.ow.unbg fun a ha => (mm a ha).1
              exact k σ7 H7 F7 fp8 g8 s8 (fun j hj => (p7 j (sub j hj)).trans (pp j (sub j hj))) (by rw [pt_length]; exact l7) v fv ⟨ow, rv'.nd, fun j a ha z => by
                rcases a8 j a ha with h | h
                · exact rv'.ap j a h z
                · exact ap a z (by rw [h]; exact List.mem_cons_self)⟩
            · cases em2
          · cases em2
        · have e : j = ds.length := by omega
          subst e
          rw [List.drop_length] at em2
          cases em2
          obtain ⟨fp8, s8, g8, _⟩ := done s2 g2 p2
          exact .inl ⟨⟨vs, SqL.of hc2, by rw [lds]; exact Nat.le_refl _⟩, k σ2 H2 F2 fp8 g8 s8 (fun j hj => p2 j (sub j hj)) (by rw [pt_length]; exact l2)⟩
      · cases em
    · cases em
  · exact old.run pins s σ H D I ⟨B, F, st, fp, fl, st', s0, hl, em, k⟩
/-! ### comprehensions -/
/-- the walk yields these data as long as B stands -/
structure ItdB (K : PySem.W.Frag) (B F : Hp) (ds : List D) (J : It) : Prop where
  go : ∀ F' H, Same B H → Same F F' → Same F' H → ∀ i, i < ds.length → J.go i H
  stop : ∀ F' H, Same B H → Same F F' → Same F' H → J.stop ds.length H
  yld : ∀ F' H, Same B H → Same F F' → Same F' H → ∀ i d x H', ds[i]? = some d → J.yld i H x H' → Same H H' ∧ ∃ F2, Same F' F2 ∧ (∀ a, H a ≠ none → F2 a = F' a) ∧ Same F2 H' ∧ Rp K F2 d x
theorem itdB_l {K : PySem.W.Frag} {B F : Hp} {ds : List D} {a : Addr} {vs : List V} (h : B a = some (.lst vs)) (r : Rps K F ds vs) : ItdB K B F ds (Itl K a) where
  go := fun F' H b f h' i hi => by
    obtain ⟨v, e, _⟩ := r.get (List.getElem?_eq_getElem hi)
    exact ⟨vs, v, SqL.of (b _ _ h), e⟩
  stop := fun F' H b f h' => ⟨vs, SqL.of (b _ _ h), by rw [r.length]; exact Nat.le_refl _⟩
  yld := fun F' H b f h' i d x H' e y => by
    obtain ⟨rfl, y⟩ := y
    obtain ⟨v, e2, rv⟩ := r.get e
    have := (y vs (SqL.of (b _ _ h))).symm.trans e2
    cases this
    exact ⟨.refl _, F', .refl _, fun _ _ => rfl, h', Rp.mono f _ _ rv⟩
theorem lcB_core {K : PySem.W.Frag} {n : Nat} {tg : GM} {c : TM} {el : EM} {own : List Nat} {σ : L2.St} {H1 : Hp} {Q : VK} {B F1 : Hp} {ds accF : List D} {st1 stF : S} {fp1 : Nat → List Addr} {J : It} (s1 : SR K B F1 H1 st1 σ fp1) (itd : ItdB K B F1 ds J) (no : noOwn st1 own = true)
    (q2 : lcGo own tg c el ds (wipeD st1 own) [] = some (accF, stF)) (lσ : σ.length = n)
    (k : ∀ v H2 F2 fp9 fv, Gr B F1 F2 → SR K B F2 H2 (backD st1 stF own) σ fp9 → RV K B F2 H2 fp9 (.lst true accF) v fv → Q v H2) (D : Addr) (hD : H1 D = none) :
    ∃ W : Nat → Nat → Hp → Prop, (∃ m, W 0 m (upd H1 D (.lst []))) ∧ ∀ i m H, W i m H →
      (J.stop i H ∧ Q (.ref D) H) ∨ (J.go i H ∧ ∃ Nx : Hp → Prop, (∀ H', Nx H' → ∃ m', m' < m ∧ W (i + 1) m' H') ∧ ∀ x H', J.yld i H x H' → (tGo K n own tg) x (wipe σ own) H' fun σ2 H2 => wipe σ2 own = wipe σ own ∧ (tT K c) σ2 H2 fun b H3 =>
        if b = true then (tM K el) σ2 H3 fun y H4 => ∃ acc, H4 D = some (.lst acc) ∧ acc.length < sizeLine ∧ Nx (upd H4 D (.lst (acc ++ [y]))) else Nx H3) := by
  have dF : F1 D = none := sub_none s1.fh hD
  have dB : B D = none := sub_none s1.bh hD
  have s1' := (s1.grow (same_new (o := .lst []) hD) (.refl _) (fun _ _ => rfl) (s1.fh.trans (same_new hD))).wiped (vs := own)
  refine ⟨fun i m H2 => ∃ F2 st2 fp2 acc vs fa, SR K B F2 H2 st2 (wipe σ own) fp2 ∧ Gr B F1 F2 ∧ i ≤ ds.length ∧ m = ds.length - i ∧ H2 D = some (.lst vs) ∧ F2 D = none ∧ Ows K B F2 H2 acc vs fa ∧ (D :: fa).Nodup ∧ (∀ j, ∀ a ∈ fp2 j, a ∉ D :: fa) ∧
      lcGo own tg c el (ds.drop i) st2 acc = some (accF, stF),
    ⟨ds.length, F1, wipeD st1 own, _, [], [], [], s1', .refl, Nat.zero_le _, rfl, upd_same, dF, .nil, by simp, fun j a ha z => ?_, by rw [List.drop_zero]; exact q2⟩, ?_⟩
  · have e : a = D := by simpa using z
    subst e
    by_cases hj : j ∈ own
    · rw [if_pos hj] at ha; cases ha
    · rw [if_neg hj] at ha
      exact (s1.hold ha).1 hD
  rintro i m H2 ⟨F2, st2, fp2, acc, vs, fa, s2, g2, hi2, rfl, hD2, fD2, ows, nd, ap, em2⟩
  by_cases hlt : i < ds.length
  · have ed : ds[i]? = some ds[i] := List.getElem?_eq_getElem hlt
    rw [List.drop_eq_getElem_cons hlt] at em2
    unfold lcGo at em2
    split at em2
    · rename_i st3 q3
      refine .inr ⟨itd.go F2 H2 s2.bh g2.ex s2.fh i hlt, fun H4 => ∃ F4 st4 fp4 acc vs fa, SR K B F4 H4 st4 (wipe σ own) fp4 ∧ Gr B F1 F4 ∧ H4 D = some (.lst vs) ∧ F4 D = none ∧ Ows K B F4 H4 acc vs fa ∧ (D :: fa).Nodup ∧ (∀ j, ∀ a ∈ fp4 j, a ∉ D :: fa) ∧
          lcGo own tg c el (ds.drop (i + 1)) st4 acc = some (accF, stF),
        fun H4 ⟨F4, st4, fp4, acc, vs, fa, s4, g4, hD4, fD4, ows4, nd4, ap4, em4⟩ => ⟨ds.length - (i + 1), by omega, F4, st4, fp4, acc, vs, fa, s4, g4, by omega, rfl, hD4, fD4, ows4, nd4, ap4, em4⟩, fun x H' y => ?_⟩
      obtain ⟨sh, F3, sf, at3, fh3, rx⟩ := itd.yld F2 H2 s2.bh g2.ex s2.fh i _ x H' ed y
      have s3 := s2.grow sh sf at3 fh3
      have g3 : Gr B F1 F3 := g2.trans (.of s2 sf at3)
      have mm0 : ∀ a ∈ D :: fa, H2 a ≠ none ∧ F2 a = none ∧ B a = none := fun a ha => by
        rcases List.mem_cons.mp ha with rfl | ha
        · exact ⟨by rw [hD2]; simp, fD2, dB⟩
        · exact Ows.mem _ _ _ ows a ha
      have eqH : ∀ a ∈ D :: fa, H' a = H2 a := fun a ha => by
        cases q : H2 a with
        | none => exact absurd q (mm0 a ha).1
        | some o => exact sh a o q
      have mm : ∀ a ∈ D :: fa, H' a ≠ none ∧ F3 a = none ∧ B a = none := fun a ha => by
        obtain ⟨h1, h2, h3⟩ := mm0 a ha
        exact ⟨by rw [eqH a ha]; exact h1, by rw [at3 a h1]; exact h2, h3⟩
      have hD' : H' D = some (.lst vs) := by rw [eqH D List.mem_cons_self]; exact hD2
      have ows3 : Ows K B F3 H' acc vs fa := ows.frame sf acc vs fa (fun a ha => eqH a (List.mem_cons_of_mem _ ha)) (fun a ha => (mm a (List.mem_cons_of_mem _ ha)).2.1) fun a ha => (mm a (List.mem_cons_of_mem _ ha)).2.2
      -- the new list and its items are set aside
      have sp := s3.park ap
      have lw : st2.length = n := by rw [s2.len, wipe_length]; exact lσ
      refine ⟨bg B H' (D :: fa), F3, st2, fp2, _, st3, sp, lw, rx, q3, fun σ5 fp5 s5 p5 l5 => ?_⟩
      have w5 : wipe σ5 own = wipe (wipe σ own) own := wipe_eq (by rw [← s5.len, l5, wipe_length, lσ]) fun j hj => by rw [wipe_ne hj]; exact p5 j hj
      have ww : wipe (wipe σ own) own = wipe σ own := wipe_eq (by rw [wipe_length]) fun j hj => rfl
      refine ⟨w5.trans ww, ?_⟩
      -- how a state behind the turn is the next turn's
      have fin : ∀ {st6 : S} {F6 H6 : Hp} {fp6 : Nat → List Addr}, Gr (bg B H' (D :: fa)) F3 F6 → SR K (bg B H' (D :: fa)) F6 H6 st6 σ5 fp6 →
          ∃ fp7, SR K B F6 H6 (wipeD st6 own) (wipe σ own) fp7 ∧ (∀ i a, a ∈ fp7 i → a ∈ fp6 i) ∧ Gr B F1 F6 ∧ H6 D = some (.lst vs) ∧ F6 D = none ∧ Ows K B F6 H6 acc vs fa ∧ (∀ j, ∀ a ∈ fp6 j, a ∉ D :: fa) := fun {st6 F6 H6 fp6} g6 s6 => by
        obtain ⟨su, gu, hu, au⟩ := s6.unpark g6 mm s3.bh
        have sw := su.wiped (vs := own)
        rw [w5, ww] at sw
        refine ⟨_, sw, fun j a ha => ?_, g3.trans gu, ?_, (hu D List.mem_cons_self).2, ?_, au⟩
        · by_cases hj : j ∈ own
          · rw [if_pos hj] at ha; cases ha
          · rw [if_neg hj] at ha; exact ha
        · rw [(hu D List.mem_cons_self).1]; exact hD'
        · exact ows3.frame gu.ex acc vs fa (fun a ha => (hu a (List.mem_cons_of_mem _ ha)).1) (fun a ha => (hu a (List.mem_cons_of_mem _ ha)).2) fun a ha => (mm a (List.mem_cons_of_mem _ ha)).2.2
      split at em2
      · rename_i st6 q6
        refine ⟨bg B H' (D :: fa), F3, st3, fp5, true, st6, s5, q6, fun H6 F6 fp6 g6 s6 => ?_⟩
        split at em2
        · rename_i x7 st7 q7
          split at em2
          · rename_i hz
            refine iteT ⟨bg B H' (D :: fa), F6, st6, fp6, x7, st7, s6, q7, fun y7 H7 F7 fp7 fv g7 s7 r7 => ?_⟩
            obtain ⟨fp8, s8, sub8, g8, hD8, fD8, ows8, ap8⟩ := fin (g6.trans g7) s7
            obtain ⟨ow7, ap7⟩ := r7.ow.unbg fun a ha => (mm a ha).1
            have nDv : D ∉ fv := fun z => ap7 D z List.mem_cons_self
            have nD8 : ∀ j, D ∉ fp8 j := fun j z => ap8 j D (sub8 j D z) List.mem_cons_self
            have m7 := Ow.mem x7 y7 fv ow7
            have m8 := Ows.mem acc vs fa ows8
            rw [List.nodup_cons] at nd
            refine ⟨vs, hD8, szlt (by rw [← ows8.length]; exact hz), F7, wipeD st7 own, fp8, acc ++ [x7], vs ++ [y7], fa ++ (fv ++ []), ?_, g8, upd_same, fD8, ?_, ?_, ?_, em2⟩
            · refine ⟨s8.len, fun a o e => ?_, fun a o e => ?_, fun j d e => ?_, s8.em, s8.nd, s8.dj⟩
              · rw [upd_ne fun z => by rw [z, dB] at e; cases e]; exact s8.bh a o e
              · rw [upd_ne fun z => by rw [z, fD8] at e; cases e]; exact s8.fh a o e
              · obtain ⟨v, e1, o⟩ := s8.sl j d e
                exact ⟨v, e1, o.frame (.refl _) d v _ (fun a ha => upd_ne fun z => nD8 j (z ▸ ha)) (fun a ha => (s8.hold ha).2.1) fun a ha => (s8.hold ha).2.2⟩
            · refine Ows.append (ows8.frame (.refl _) acc vs fa (fun a ha => upd_ne fun z => nd.1 (z ▸ ha)) (fun a ha => (m8 a ha).2.1) fun a ha => (m8 a ha).2.2) (.cons (ow7.frame (.refl _) x7 y7 fv (fun a ha => upd_ne fun z => nDv (z ▸ ha)) (fun a ha => (m7 a ha).2.1) fun a ha => (m7 a ha).2.2) .nil)
            · rw [List.append_nil, List.nodup_cons]
              refine ⟨fun z => ?_, ?_⟩
              · rcases List.mem_append.mp z with z | z
                · exact nd.1 z
                · exact nDv z
              · rw [List.nodup_append]
                exact ⟨nd.2, r7.nd, fun a ha b hb e => ap7 b hb (List.mem_cons_of_mem _ (e ▸ ha))⟩
            · intro j a ha z
              rw [List.append_nil] at z
              rcases List.mem_cons.mp z with z | z
              · exact nD8 j (z ▸ ha)
              · rcases List.mem_append.mp z with z | z
                · exact ap8 j a (sub8 j a ha) (List.mem_cons_of_mem _ z)
                · exact r7.ap j a (sub8 j a ha) z
          · cases em2
        · cases em2
      · rename_i st6 q6
        refine ⟨bg B H' (D :: fa), F3, st3, fp5, false, st6, s5, q6, fun H6 F6 fp6 g6 s6 => ?_⟩
        obtain ⟨fp8, s8, sub8, g8, hD8, fD8, ows8, ap8⟩ := fin g6 s6
        exact iteF ⟨F6, wipeD st6 own, fp8, acc, vs, fa, s8, g8, hD8, fD8, ows8, nd, fun j a ha => ap8 j a (sub8 j a ha), em2⟩
      · cases em2
    · cases em2
  · have e : i = ds.length := by omega
    subst e
    rw [List.drop_length] at em2
    cases em2
    obtain ⟨fp9, s9, sub9⟩ := s1.back no s2 g2.ex
    exact .inl ⟨itd.stop F2 H2 s2.bh g2.ex s2.fh, k _ H2 F2 fp9 (D :: fa) g2 s9 ⟨.lst hD2 fD2 dB ows, nd, fun j a ha => ap j a (sub9 j a ha)⟩⟩
def mLcB (i : Nat) (own : List Nat) (tg : GM) (c : TM) (el : EM) : EM := fun st => match ownL (gt st i) with
  | some ds => match noOwn (pt st i none) own && !own.contains i with
    | true => match lcGo own tg c el ds (wipeD (pt st i none) own) [] with
      | some (acc, st2) => match gt (backD (pt st i none) st2 own) i with
        | none => some (.lst true acc, pt (backD (pt st i none) st2 own) i (some (.lst true ds)))
        | some _ => none
      | none => none
    | false => none
  | none => mLc own (wSq (mNm i)) tg c el st
theorem lcB_read1 {K : PySem.W.Frag} {n i : Nat} {tg : GM} {c : TM} {el : EM} {own : List Nat} {σ : L2.St} {B F H : Hp} {Q : VK} {st st' : S} {fp : Nat → List Addr} {z : D} {ds : List D} (s : SR K B F H st σ fp) (q0 : ownL (gt st i) = some ds) (em : mLcB i own tg c el st = some (z, st'))
    (k : ∀ v H' F' fp' fv, Gr B F F' → SR K B F' H' st' σ fp' → RV K B F' H' fp' z v fv → Q v H') (lσ : σ.length = n) : tLc (iSeq K (tVar i)) (tGo K n own tg) (tT K c) (tM K el) own σ H Q := by
  unfold mLcB at em
  rw [q0] at em
  obtain ⟨q0, pl⟩ := ownL_eq q0
  have em : (match noOwn (pt st i none) own && !own.contains i with
    | true => match lcGo own tg c el ds (wipeD (pt st i none) own) [] with
      | some (acc, st2) => match gt (backD (pt st i none) st2 own) i with
        | none => some (.lst true acc, pt (backD (pt st i none) st2 own) i (some (.lst true ds)))
        | some _ => none
      | none => none
    | false => none) = some (z, st') := em
  split at em
  · rename_i no
    rw [Bool.and_eq_true] at no
    split at em
    · rename_i acc st2 q1
      split at em
      · rename_i q2
        cases em
        obtain ⟨c0, vs, e1, hc0, rs, mm, sp⟩ := s.aside q0 pl
        refine ⟨_, e1, c0, rfl, .inl ⟨vs, SqL.of hc0, fun D hD => ?_⟩⟩
        refine lcB_core sp (itdB_l (by rw [bg_in List.mem_cons_self]; exact hc0) rs) no.1 q1 lσ (fun v H2 F2 fp9 fv g2 s2 rv => ?_) D hD
        obtain ⟨fp8, s8, g8, a8⟩ := s2.again g2 mm s.bh hc0 rs e1 q2
        obtain ⟨ow, ap⟩ := rv.ow.unbg fun a ha => (mm a ha).1
        exact k v H2 F2 fp8 fv g8 s8 ⟨ow, rv.nd, fun j a ha z => by
          rcases a8 j a ha with h | h
          · exact rv.ap j a h z
          · exact ap a z (by rw [h]; exact List.mem_cons_self)⟩
      · cases em
    · cases em
  · cases em
theorem mLcB_none {i : Nat} {tg : GM} {c : TM} {el : EM} {own : List Nat} {st : S} (q : ownL (gt st i) = none) : mLcB i own tg c el st = mLc own (wSq (mNm i)) tg c el st := by
  unfold mLcB; rw [q]
end
section
variable {X : Cx} {pn : List Nat} {elt tg iter : Expr} {ifs : List Expr} {scope : Scope} {own : List (Str × Nat)} {pos spos : Pos} {g : GM} {t : TM} {el : EM} {i : Nat}
/-- [elt for tg in x if ..], x a name -/
theorem j_lcB (hc : X.calm = true) (hN : X.N.Nodup) (hi : PE X iter (tVar i)) (ok : blkC X.N X.env.scope scope own = true)
    (hg : ∀ (s : Shared) (H : Hp) (C : Addr) (cl : List (Str × Addr)) (fp : List Addr), CG (X.blk s H scope (compEnvC scope cl C X.env) fp) (own.map (·.2)) tg g) (ht : ∀ (s : Shared) (H : Hp) (C : Addr) (cl : List (Str × Addr)) (fp : List Addr), TsE (X.blk s H scope (compEnvC scope cl C X.env) fp) ifs t)
    (he : ∀ (s : Shared) (H : Hp) (C : Addr) (cl : List (Str × Addr)) (fp : List Addr), ME (X.blk s H scope (compEnvC scope cl C X.env) fp) elt el) (hs : ∀ x, foldedSetIterable iter X.env x = pure x := by intro _; rfl) :
    ME X (.ListComp elt [⟨tg, iter, ifs, 0⟩] scope pos) (mLcB i (own.map (·.2)) g t el) := by
  have o1 : ME X (.ListComp elt [⟨tg, iter, ifs, 0⟩] scope pos) (mLc (own.map (·.2)) (wSq (mNm i)) g t el) := j_lc (own := own) hc hN (w_sq (j_nm hi)) ok hg ht he hs
  have o2 : PE X (.ListComp elt [⟨tg, iter, ifs, 0⟩] scope pos) (tLc (iSeq X.K (tVar i)) (tGo X.K X.N.length (own.map (·.2)) g) (tT X.K t) (tM X.K el) (own.map (·.2))) := pe_lc (own := own) hc hN (pi_seq hi) (blkOk_by ok) hg (fun s H C cl fp => (ht s H C cl fp).run) he hs
  refine ⟨fun pins s σ H Q I ⟨B, F, st, fp, z, st', s0, em, k⟩ => ?_⟩
  cases q0 : ownL (gt st i) with
  | some ds => exact o2.run pins s σ H Q I (lcB_read1 s0 q0 em k I.len)
  | none => exact o1.run pins s σ H Q I ⟨B, F, st, fp, z, st', s0, (mLcB_none q0).symm.trans em, k⟩
theorem s_setLcB {j : Nat} {y : Str} {py : Pos} (hc : X.calm = true) (hN : X.N.Nodup) (hy : X.N[i]? = some y) (hyl : X.env.scope.names.lookup y = some .local)
    (hsw : swapsWith (.ListComp elt [⟨tg, iter, ifs, 0⟩] scope pos) (some (.Name y py)) spos.line X.env = pure true) (hi : PE X iter (tVar j)) (ok : blkC X.N X.env.scope scope own = true)
    (hg : ∀ (s : Shared) (H : Hp) (C : Addr) (cl : List (Str × Addr)) (fp : List Addr), CG (X.blk s H scope (compEnvC scope cl C X.env) fp) (own.map (·.2)) tg g) (ht : ∀ (s : Shared) (H : Hp) (C : Addr) (cl : List (Str × Addr)) (fp : List Addr), TsE (X.blk s H scope (compEnvC scope cl C X.env) fp) ifs t)
    (he : ∀ (s : Shared) (H : Hp) (C : Addr) (cl : List (Str × Addr)) (fp : List Addr), ME (X.blk s H scope (compEnvC scope cl C X.env) fp) elt el) (hp : pn.contains i = false := by rfl) (hs : ∀ x, foldedSetIterable iter X.env x = pure x := by intro _; rfl) :
    SE X pn (.Assign [.Name y py] (.ListComp elt [⟨tg, iter, ifs, 0⟩] scope pos) spos) (mSet i (mLcB j (own.map (·.2)) g t el)) := by
  have o1 : SE X pn (.Assign [.Name y py] (.ListComp elt [⟨tg, iter, ifs, 0⟩] scope pos) spos) (mSet i (mLc (own.map (·.2)) (wSq (mNm j)) g t el)) := s_setLc (i := i) (own := own) hc hN hy hyl hsw (w_sq (j_nm hi)) ok hg ht he hp hs
  have o2 := ps_setLc (i := i) (own := own) (pos := pos) (spos := spos) (py := py) (y := y) (X := X) (wi := iSeq X.K (tVar j)) (g := tGo X.K X.N.length (own.map (·.2)) g) (tt := tT X.K t) (te := tM X.K el) hc hN hy hyl hsw (pi_seq hi) (blkOk_by ok) hg (fun s H C cl fp => (ht s H C cl fp).run) he hs
  refine ⟨fun pins s σ H D I ⟨B, F, st, fp, fl, st', s0, hl, em, k⟩ => ?_⟩
  cases q0 : ownL (gt st j) with
  | none =>
    refine o1.run pins s σ H D I ⟨B, F, st, fp, fl, st', s0, hl, ?_, k⟩
    unfold mSet at em ⊢
    rw [mLcB_none q0] at em
    exact em
  | some ds =>
    unfold mSet at em
    cases q : mLcB j (own.map (·.2)) g t el st with
    | none => rw [q] at em; cases em
    | some w =>
      obtain ⟨d, st1⟩ := w
      rw [q] at em
      cases em
      refine o2.run pins s σ H D I (lcB_read1 s0 q0 q (fun v H1 F1 fp1 fv g1 s1 r1 => ?_) I.len)
      have l1 : st1.length = X.N.length := by rw [s1.len]; exact I.len
      exact k _ H1 F1 _ g1 (s1.put (by rw [l1]; exact (List.getElem?_eq_some_iff.mp hy).1) r1) (set_ne hp) (by rw [pt_length]; exact l1)
end
end MP

/-! MPD: the denotations run, by rewriting: each combinator looks at its first part's outcome. -/
namespace MP
open PySem L2

@[simp] theorem gt_n (i) : gt [] i = none := id rfl
@[simp] theorem gt_0 (x r) : gt (x :: r) 0 = x := id rfl
@[simp] theorem gt_s (x r i) : gt (x :: r) (i + 1) = gt r i := id rfl
@[simp] theorem pt_n (i d) : pt [] i d = [] := id rfl
@[simp] theorem pt_0 (x r d) : pt (x :: r) 0 d = d :: r := id rfl
@[simp] theorem pt_s (x r i d) : pt (x :: r) (i + 1) d = x :: pt r i d := id rfl
@[simp] theorem Hd.get_nm (i st) : (Hd.nm i).get st = gt st i := id rfl
@[simp] theorem Hd.get_dt (d st) : (Hd.dt d).get st = some d := id rfl
@[simp] theorem mC_r (d st) : mC d st = some (d, st) := id rfl
@[simp] theorem mNx_r (st) : mNx st = some (.nx, st) := id rfl
@[simp] theorem mBk_r (st) : mBk st = some (.bk, st) := id rfl
@[simp] theorem mCt_r (st) : mCt st = some (.ct, st) := id rfl
@[simp] theorem pNo_r (st) : pNo st = some (none, st) := id rfl
@[simp] theorem aNil_r (st) : aNil st = some ([], st) := id rfl
@[simp] theorem mDn_r (st) : mDn st = some (.dic true [] [], st) := id rfl
@[simp] theorem tYs_r (st) : tYs st = some (true, st) := id rfl
@[simp] theorem mRtN_r (st) : mRtN st = some (.rt .non, st) := id rfl
@[simp] theorem gNm_r (i d st) : gNm i d st = some (pt st i (some d)) := id rfl
def pr_ (r : Option D) (st : S) : Option (D × S) := match r with | some z => some (z, st) | none => none
@[simp] theorem pr_s (z st) : pr_ (some z) st = some (z, st) := id rfl
def nm_ (o : Option D) (i : Nat) (st : S) : Option (Hd × S) := match o with | some _ => some (.nm i, st) | none => none
@[simp] theorem oNm_r (i st) : oNm i st = nm_ (gt st i) i st := id rfl
@[simp] theorem nm_s (d i st) : nm_ (some d) i st = some (.nm i, st) := id rfl
def ex_ (r : Option (D × S)) : Option (Hd × S) := match r with | some (d, st') => some (.dt d, st') | none => none
@[simp] theorem oEx_r (m st) : oEx m st = ex_ (m st) := id rfl
@[simp] theorem ex_s (d st) : ex_ (some (d, st)) = some (.dt d, st) := id rfl
def fz_ (r : Option (D × S)) : Option (D × S) := match r with | some (d, st') => some (d.fz, st') | none => none
@[simp] theorem mFz_r (m st) : mFz m st = fz_ (m st) := id rfl
@[simp] theorem fz_s (d st) : fz_ (some (d, st)) = some (d.fz, st) := id rfl
def nmv_ (o : Option D) (i : Nat) (st : S) : Option (D × S) := match o with
  | some d => match d.own with
    | true => some (d.fz, pt st i (some d.fz))
    | false => some (d, st)
  | none => none
@[simp] theorem mNm_r (i st) : mNm i st = nmv_ (gt st i) i st := id rfl
@[simp] theorem nmv_non (i st) : nmv_ (some .non) i st = some (.non, st) := id rfl
@[simp] theorem nmv_bl (b i st) : nmv_ (some (.bl b)) i st = some (.bl b, st) := id rfl
@[simp] theorem nmv_int (b i st) : nmv_ (some (.int b)) i st = some (.int b, st) := id rfl
@[simp] theorem nmv_str (b i st) : nmv_ (some (.str b)) i st = some (.str b, st) := id rfl
@[simp] theorem nmv_tup (b i st) : nmv_ (some (.tup b)) i st = some (.tup b, st) := id rfl
@[simp] theorem nmv_fro (b i st) : nmv_ (some (.fro b)) i st = some (.fro b, st) := id rfl
@[simp] theorem nmv_lstF (b i st) : nmv_ (some (.lst false b)) i st = some (.lst false b, st) := id rfl
@[simp] theorem nmv_dicF (k b i st) : nmv_ (some (.dic false k b)) i st = some (.dic false k b, st) := id rfl
@[simp] theorem nmv_lstT (b i st) : nmv_ (some (.lst true b)) i st = some (.lst false (D.fzs b), pt st i (some (.lst false (D.fzs b)))) := id rfl
@[simp] theorem nmv_dicT (k b i st) : nmv_ (some (.dic true k b)) i st = some (.dic false k (D.fzs b), pt st i (some (.dic false k (D.fzs b)))) := id rfl
theorem nmv_of {d : D} (h : d.own = false) (i st) : nmv_ (some d) i st = some (d, st) := by unfold nmv_; simp only [h]
def mv_ (o : Option D) (i : Nat) (st : S) : Option (D × S) := match o with | some d => some (d, pt st i none) | none => none
@[simp] theorem mMv_r (i st) : mMv i st = mv_ (gt st i) i st := id rfl
@[simp] theorem mv_s (d i st) : mv_ (some d) i st = some (d, pt st i none) := id rfl
@[simp] theorem fzs_nil : D.fzs [] = [] := id rfl
@[simp] theorem fzs_cons (d ds) : D.fzs (d :: ds) = d.fz :: D.fzs ds := id rfl
@[simp] theorem fzs_append (ds es : List D) : D.fzs (ds ++ es) = D.fzs ds ++ D.fzs es := by rw [D.fzs_eq, D.fzs_eq, D.fzs_eq, List.map_append]
@[simp] theorem fzs_length (ds : List D) : (D.fzs ds).length = ds.length := D.fzs_length ds

def un1_ (g : D → Option D) (o : Option D) (st : S) : Option (D × S) := match o with
  | some d => match g d with
    | some z => some (z, st)
    | none => none
  | none => none
def un_ (g : D → Option D) (r : Option (Hd × S)) : Option (D × S) := match r with | some (h, st1) => un1_ g (h.get st1) st1 | none => none
@[simp] theorem mUn_r (g o st) : mUn g o st = un_ g (o st) := id rfl
@[simp] theorem un_s (g h st) : un_ g (some (h, st)) = un1_ g (h.get st) st := id rfl
@[simp] theorem un1_s (g d st) : un1_ g (some d) st = pr_ (g d) st := id rfl
def bin2_ (g : D → D → Option D) (o1 o2 : Option D) (st2 : S) : Option (D × S) := match o1 with
  | some d => match o2 with
    | some e => match g d e with
      | some z => some (z, st2)
      | none => none
    | none => none
  | none => none
def bin1_ (g : D → D → Option D) (h1 : Hd) (r : Option (Hd × S)) : Option (D × S) := match r with | some (h2, st2) => bin2_ g (h1.get st2) (h2.get st2) st2 | none => none
def bin_ (g : D → D → Option D) (o2 : OM) (r : Option (Hd × S)) : Option (D × S) := match r with | some (h1, st1) => bin1_ g h1 (o2 st1) | none => none
@[simp] theorem mBin_r (g o1 o2 st) : mBin g o1 o2 st = bin_ g o2 (o1 st) := id rfl
@[simp] theorem bin_s (g o2 h st) : bin_ g o2 (some (h, st)) = bin1_ g h (o2 st) := id rfl
@[simp] theorem bin1_s (g h1 h2 st) : bin1_ g h1 (some (h2, st)) = bin2_ g (h1.get st) (h2.get st) st := id rfl
@[simp] theorem bin2_s (g d e st) : bin2_ g (some d) (some e) st = pr_ (g d e) st := id rfl
def lb_ (r : Option Bool) : Option D := match r with | some b => some (.bl b) | none => none
@[simp] theorem liftB_r (g d e) : liftB g d e = lb_ (g d e) := id rfl
@[simp] theorem lb_s (b) : lb_ (some b) = some (.bl b) := id rfl
def of_ (r : Option (D × S)) : Option (Bool × S) := match r with | some (.bl b, st') => some (b, st') | _ => none
@[simp] theorem tOf_r (m st) : tOf m st = of_ (m st) := id rfl
@[simp] theorem of_s (b st) : of_ (some (.bl b, st)) = some (b, st) := id rfl
def an_ (r : Option (Bool × S)) (u : TM) : Option (Bool × S) := match r with | some (true, st1) => u st1 | some (false, st1) => some (false, st1) | none => none
@[simp] theorem tAn_r (t u st) : tAn t u st = an_ (t st) u := by unfold tAn an_; split <;> rename_i h <;> simp [h]
@[simp] theorem an_t (st u) : an_ (some (true, st)) u = u st := id rfl
@[simp] theorem an_f (st u) : an_ (some (false, st)) u = some (false, st) := id rfl
def oo_ (r : Option (Bool × S)) (u : TM) : Option (Bool × S) := match r with | some (true, st1) => some (true, st1) | some (false, st1) => u st1 | none => none
@[simp] theorem tOo_r (t u st) : tOo t u st = oo_ (t st) u := by unfold tOo oo_; split <;> rename_i h <;> simp [h]
@[simp] theorem oo_t (st u) : oo_ (some (true, st)) u = some (true, st) := id rfl
@[simp] theorem oo_f (st u) : oo_ (some (false, st)) u = u st := id rfl
def no_ (r : Option (Bool × S)) : Option (Bool × S) := match r with | some (b, st1) => some (!b, st1) | none => none
@[simp] theorem tNo_r (t st) : tNo t st = no_ (t st) := id rfl
@[simp] theorem no_s (b st) : no_ (some (b, st)) = some (!b, st) := id rfl
def mand_ (r : Option (D × S)) (n : EM) : Option (D × S) := match r with | some (.bl true, st1) => n st1 | some (.bl false, st1) => some (.bl false, st1) | _ => none
@[simp] theorem mAn_r (m n st) : mAn m n st = mand_ (m st) n := id rfl
@[simp] theorem mand_t (st n) : mand_ (some (.bl true, st)) n = n st := id rfl
@[simp] theorem mand_f (st n) : mand_ (some (.bl false, st)) n = some (.bl false, st) := id rfl
def moo_ (r : Option (D × S)) (n : EM) : Option (D × S) := match r with | some (.bl true, st1) => some (.bl true, st1) | some (.bl false, st1) => n st1 | _ => none
@[simp] theorem mOo_r (m n st) : mOo m n st = moo_ (m st) n := id rfl
@[simp] theorem moo_t (st n) : moo_ (some (.bl true, st)) n = some (.bl true, st) := id rfl
@[simp] theorem moo_f (st n) : moo_ (some (.bl false, st)) n = n st := id rfl
def mno_ (r : Option (D × S)) : Option (D × S) := match r with | some (.bl b, st1) => some (.bl (!b), st1) | _ => none
@[simp] theorem mNo_r (m st) : mNo m st = mno_ (m st) := id rfl
@[simp] theorem mno_s (b st) : mno_ (some (.bl b, st)) = some (.bl (!b), st) := id rfl
def mif_ (r : Option (Bool × S)) (m n : EM) : Option (D × S) := match r with | some (true, st1) => m st1 | some (false, st1) => n st1 | none => none
@[simp] theorem mIf_r (t m n st) : mIf t m n st = mif_ (t st) m n := by unfold mIf mif_; split <;> rename_i h <;> simp [h]
@[simp] theorem mif_t (st m n) : mif_ (some (true, st)) m n = m st := id rfl
@[simp] theorem mif_f (st m n) : mif_ (some (false, st)) m n = n st := id rfl
def tr1_ (o : Option D) (st : S) : Option (Bool × S) := match o with
  | some d => match gTru d with
    | some k => some (k, st)
    | none => none
  | none => none
def tr_ (r : Option (Hd × S)) : Option (Bool × S) := match r with | some (h, st1) => tr1_ (h.get st1) st1 | none => none
def prB_ (r : Option Bool) (st : S) : Option (Bool × S) := match r with | some z => some (z, st) | none => none
@[simp] theorem prB_s (z st) : prB_ (some z) st = some (z, st) := id rfl
@[simp] theorem tTr_r (o st) : tTr o st = tr_ (o st) := id rfl
@[simp] theorem tr_s (h st) : tr_ (some (h, st)) = tr1_ (h.get st) st := id rfl
@[simp] theorem tr1_s (d st) : tr1_ (some d) st = prB_ (gTru d) st := id rfl
@[simp] theorem gTru_non : gTru .non = some false := id rfl
@[simp] theorem gTru_bl (b) : gTru (.bl b) = some b := id rfl
@[simp] theorem gTru_int (i) : gTru (.int i) = some (i != 0) := id rfl
@[simp] theorem gTru_tup (ds) : gTru (.tup ds) = some (!ds.isEmpty) := id rfl
@[simp] theorem gTru_lst (o ds) : gTru (.lst o ds) = some (!ds.isEmpty) := id rfl
@[simp] theorem gTru_fro (ds) : gTru (.fro ds) = some (!ds.isEmpty) := id rfl
@[simp] theorem gTru_dic (o ks ds) : gTru (.dic o ks ds) = some (!ks.isEmpty) := id rfl
/-! chains -/
def ch3_ (g' : D → D → Option Bool) (h2 : Hd) (r : Option (Hd × S)) : Option (D × S) := match r with
  | some (h3, st3) => bin2_ (liftB g') (h2.get st3) (h3.get st3) st3
  | none => none
def ch2_ (g' : D → D → Option Bool) (h2 : Hd) (o3 : OM) (b : Option Bool) (st2 : S) : Option (D × S) := match b with
  | some true => ch3_ g' h2 (o3 st2)
  | some false => some (.bl false, st2)
  | none => none
def ch1_ (g g' : D → D → Option Bool) (h1 : Hd) (o3 : OM) (r : Option (Hd × S)) : Option (D × S) := match r with
  | some (h2, st2) => match h1.get st2, h2.get st2 with
    | some d, some e => ch2_ g' h2 o3 (g d e) st2
    | _, _ => none
  | none => none
def ch_ (g g' : D → D → Option Bool) (o2 o3 : OM) (r : Option (Hd × S)) : Option (D × S) := match r with | some (h1, st1) => ch1_ g g' h1 o3 (o2 st1) | none => none
@[simp] theorem mChain_r (g g' o1 o2 o3 st) : mChain g g' o1 o2 o3 st = ch_ g g' o2 o3 (o1 st) := by
  unfold mChain ch_
  cases o1 st with
  | none => rfl
  | some w =>
    obtain ⟨h1, st1⟩ := w
    simp only
    unfold ch1_
    cases o2 st1 with
    | none => rfl
    | some w =>
      obtain ⟨h2, st2⟩ := w
      simp only
      cases h1.get st2 with
      | none => rfl
      | some d =>
        cases h2.get st2 with
        | none => rfl
        | some e =>
          simp only
          unfold ch2_
          cases g d e with
          | none => rfl
          | some b =>
            cases b with
            | false => rfl
            | true =>
              simp only
              unfold ch3_
              cases o3 st2 with
              | none => rfl
              | some w =>
                obtain ⟨h3, st3⟩ := w
                simp only
                unfold bin2_ liftB
                cases h2.get st3 with
                | none => rfl
                | some e' =>
                  cases h3.get st3 with
                  | none => rfl
                  | some k =>
                    simp only
                    cases g' e' k <;> rfl
@[simp] theorem ch_s (g g' o2 o3 h st) : ch_ g g' o2 o3 (some (h, st)) = ch1_ g g' h o3 (o2 st) := id rfl
def chX_ (g g' : D → D → Option Bool) (h2 : Hd) (o3 : OM) (a b : Option D) (st2 : S) : Option (D × S) := match a, b with
  | some d, some e => ch2_ g' h2 o3 (g d e) st2
  | _, _ => none
@[simp] theorem ch1_s (g g' h1 o3 h2 st) : ch1_ g g' h1 o3 (some (h2, st)) = chX_ g g' h2 o3 (h1.get st) (h2.get st) st := id rfl
@[simp] theorem chX_s (g g' h2 o3 d e st) : chX_ g g' h2 o3 (some d) (some e) st = ch2_ g' h2 o3 (g d e) st := id rfl
@[simp] theorem ch2_t (g' h2 o3 st) : ch2_ g' h2 o3 (some true) st = ch3_ g' h2 (o3 st) := id rfl
@[simp] theorem ch2_f (g' h2 o3 st) : ch2_ g' h2 o3 (some false) st = some (.bl false, st) := id rfl
@[simp] theorem ch3_s (g' h2 h3 st) : ch3_ g' h2 (some (h3, st)) = bin2_ (liftB g') (h2.get st) (h3.get st) st := id rfl
/-! arguments -/
def aref_ (o : Option D) (i : Nat) (r : Option (List Ar × S)) : Option (List Ar × S) := match o with | some _ => (match r with | some (ls, st1) => some (.rf i :: ls, st1) | none => none) | none => none
@[simp] theorem aRef_r (i r st) : aRef i r st = aref_ (gt st i) i (r st) := by
  unfold aRef aref_
  cases gt st i with
  | none => rfl
  | some d =>
    simp only
    try (cases r st with
      | none => rfl
      | some w => rfl)
@[simp] theorem aref_s (d i ls st) : aref_ (some d) i (some (ls, st)) = some (.rf i :: ls, st) := id rfl
def adat1_ (d : D) (r : Option (List Ar × S)) : Option (List Ar × S) := match r with | some (ls, st1) => some (.dt d :: ls, st1) | none => none
def adat_ (r : AM) (x : Option (D × S)) : Option (List Ar × S) := match x with | some (d, st1) => adat1_ d (r st1) | none => none
@[simp] theorem aDat_r (m r st) : aDat m r st = adat_ r (m st) := by
  unfold aDat adat_
  cases m st with
  | none => rfl
  | some w =>
    obtain ⟨d, st1⟩ := w
    simp only
    unfold adat1_
    try (cases r st1 with
      | none => rfl
      | some w => rfl)
@[simp] theorem adat_s (r d st) : adat_ r (some (d, st)) = adat1_ d (r st) := id rfl
@[simp] theorem adat1_s (d ls st) : adat1_ d (some (ls, st)) = some (.dt d :: ls, st) := id rfl
def dats_ (ls : List Ar) (r : Option (List D)) : Option (List D) := r
@[simp] theorem datsOf_nil : datsOf [] = some [] := id rfl
def dcons_ (d : D) (r : Option (List D)) : Option (List D) := match r with | some ds => some (d :: ds) | none => none
@[simp] theorem dcons_s (d ds) : dcons_ d (some ds) = some (d :: ds) := id rfl
@[simp] theorem datsOf_dt (d ls) : datsOf (.dt d :: ls) = dcons_ d (datsOf ls) := id rfl
def tup1_ (o : Option (List D)) (st : S) : Option (D × S) := match o with | some ds => if ds.length ≤ 16777216 then some (.tup (D.fzs ds), st) else none | none => none
def tup_ (r : Option (List Ar × S)) : Option (D × S) := match r with | some (ls, st1) => tup1_ (datsOf ls) st1 | none => none
@[simp] theorem mTup_r (r st) : mTup r st = tup_ (r st) := id rfl
@[simp] theorem tup_s (ls st) : tup_ (some (ls, st)) = tup1_ (datsOf ls) st := id rfl
@[simp] theorem tup1_s (ds st) : tup1_ (some ds) st = if ds.length ≤ 16777216 then some (.tup (D.fzs ds), st) else none := id rfl
def lst1_ (o : Option (List D)) (st : S) : Option (D × S) := match o with | some ds => if ds.length ≤ 16777216 then some (.lst true ds, st) else none | none => none
def lst_ (r : Option (List Ar × S)) : Option (D × S) := match r with | some (ls, st1) => lst1_ (datsOf ls) st1 | none => none
@[simp] theorem mLst_r (r st) : mLst r st = lst_ (r st) := id rfl
@[simp] theorem lst_s (ls st) : lst_ (some (ls, st)) = lst1_ (datsOf ls) st := id rfl
@[simp] theorem lst1_s (ds st) : lst1_ (some ds) st = if ds.length ≤ 16777216 then some (.lst true ds, st) else none := id rfl
/-! slices -/
def pso_ (r : Option (D × S)) : Option (Option Int × S) := match r with | some (.int i, st') => some (some i, st') | _ => none
@[simp] theorem pSo_r (m st) : pSo m st = pso_ (m st) := id rfl
@[simp] theorem pso_s (i st) : pso_ (some (.int i, st)) = some (some i, st) := id rfl
def sl3_ (o : Option D) (i j : Option Int) (st3 : S) : Option (D × S) := match o with | some d => (match gSl d i j with | some z => some (z, st3) | none => none) | none => none
def sl2_ (h : Hd) (i : Option Int) (r : Option (Option Int × S)) : Option (D × S) := match r with | some (j, st3) => sl3_ (h.get st3) i j st3 | none => none
def sl1_ (h : Hd) (hi : PM) (r : Option (Option Int × S)) : Option (D × S) := match r with | some (i, st2) => sl2_ h i (hi st2) | none => none
def sl_ (lo hi : PM) (r : Option (Hd × S)) : Option (D × S) := match r with | some (h, st1) => sl1_ h hi (lo st1) | none => none
@[simp] theorem mSl_r (o lo hi st) : mSl o lo hi st = sl_ lo hi (o st) := id rfl
@[simp] theorem sl_s (lo hi h st) : sl_ lo hi (some (h, st)) = sl1_ h hi (lo st) := id rfl
@[simp] theorem sl1_s (h hi i st) : sl1_ h hi (some (i, st)) = sl2_ h i (hi st) := id rfl
@[simp] theorem sl2_s (h i j st) : sl2_ h i (some (j, st)) = sl3_ (h.get st) i j st := id rfl
@[simp] theorem sl3_s (d i j st) : sl3_ (some d) i j st = pr_ (gSl d i j) st := id rfl
/-! statements -/
def sq_ (r : Option (Fl × S)) (b : SM) : Option (Fl × S) := match r with | some (.nx, st1) => b st1 | r => r
@[simp] theorem mSq_r (a b st) : mSq a b st = sq_ (a st) b := id rfl
@[simp] theorem sq_nx (st b) : sq_ (some (.nx, st)) b = b st := id rfl
@[simp] theorem sq_rt (d st b) : sq_ (some (.rt d, st)) b = some (.rt d, st) := id rfl
@[simp] theorem sq_bk (st b) : sq_ (some (.bk, st)) b = some (.bk, st) := id rfl
@[simp] theorem sq_ct (st b) : sq_ (some (.ct, st)) b = some (.ct, st) := id rfl
def set_ (i : Nat) (r : Option (D × S)) : Option (Fl × S) := match r with | some (d, st1) => some (.nx, pt st1 i (some d)) | none => none
@[simp] theorem mSet_r (i m st) : mSet i m st = set_ i (m st) := id rfl
@[simp] theorem set_s (i d st) : set_ i (some (d, st)) = some (.nx, pt st i (some d)) := id rfl
def exs_ (r : Option (D × S)) : Option (Fl × S) := match r with | some (_, st1) => some (.nx, st1) | none => none
@[simp] theorem mEx_r (m st) : mEx m st = exs_ (m st) := id rfl
@[simp] theorem exs_s (d st) : exs_ (some (d, st)) = some (.nx, st) := id rfl
def rt_ (r : Option (D × S)) : Option (Fl × S) := match r with | some (d, st1) => some (.rt d, st1) | none => none
@[simp] theorem mRt_r (m st) : mRt m st = rt_ (m st) := id rfl
@[simp] theorem rt_s (d st) : rt_ (some (d, st)) = some (.rt d, st) := id rfl
def ifs_ (r : Option (Bool × S)) (a b : SM) : Option (Fl × S) := match r with | some (true, st1) => a st1 | some (false, st1) => b st1 | none => none
@[simp] theorem mIfS_r (t a b st) : mIfS t a b st = ifs_ (t st) a b := by unfold mIfS ifs_; split <;> rename_i h <;> simp [h]
@[simp] theorem ifs_t (st a b) : ifs_ (some (true, st)) a b = a st := id rfl
@[simp] theorem ifs_f (st a b) : ifs_ (some (false, st)) a b = b st := id rfl
def aug2_ (i : Nat) (r : Option D) (st : S) : Option (Fl × S) := match r with | some z => some (.nx, pt st i (some z)) | none => none
def aug1_ (i : Nat) (g : D → D → Option D) (d : D) (o : Option D) (st : S) : Option (Fl × S) := match o with | some e => aug2_ i (g d e) st | none => none
def aug_ (i : Nat) (g : D → D → Option D) (d : D) (r : Option (Hd × S)) : Option (Fl × S) := match r with | some (h, st1) => aug1_ i g d (h.get st1) st1 | none => none
@[simp] theorem mAug_int (i g o st) {a : Int} (h : gt st i = some (.int a)) : mAug i g o st = aug_ i g (.int a) (o st) := by
  unfold mAug
  rw [h]
  simp only [D.own]
  unfold aug_
  cases o st with
  | none => rfl
  | some w =>
    obtain ⟨hd, st1⟩ := w
    simp only
    unfold aug1_
    cases hd.get st1 with
    | none => rfl
    | some e =>
      simp only
      unfold aug2_
      cases g (.int a) e <;> rfl
@[simp] theorem aug_s (i g d h st) : aug_ i g d (some (h, st)) = aug1_ i g d (h.get st) st := id rfl
@[simp] theorem aug1_s (i g d e st) : aug1_ i g d (some e) st = aug2_ i (g d e) st := id rfl
@[simp] theorem aug2_s (i z st) : aug2_ i (some z) st = some (.nx, pt st i (some z)) := id rfl
/-! lists written in place -/
def app1_ (i : Nat) (d : D) (o : Option D) (st1 : S) : Option (D × S) := match o with
  | some (.lst true ds) => if ds.length < 16777216 then some (.non, pt st1 i (some (.lst true (ds ++ [d])))) else none
  | _ => none
def app_ (i : Nat) (r : Option (D × S)) : Option (D × S) := match r with | some (d, st1) => app1_ i d (gt st1 i) st1 | none => none
theorem mApp_r (i m st) {ds : List D} (h : gt st i = some (.lst true ds)) : mApp i m st = app_ i (m st) := by unfold mApp; rw [h]; rfl
@[simp] theorem app_s (i d st) : app_ i (some (d, st)) = app1_ i d (gt st i) st := id rfl
@[simp] theorem app1_s (i d ds st) : app1_ i d (some (.lst true ds)) st = if ds.length < 16777216 then some (.non, pt st i (some (.lst true (ds ++ [d])))) else none := id rfl
def ext1_ (i : Nat) (a b : Option D) (st1 : S) : Option (D × S) := match a, b with
  | some (.lst _ es), some (.lst true ds) => if plain ds = true ∧ plain es = true ∧ ds.length + es.length ≤ 16777216 then some (.non, pt st1 i (some (.lst true (ds ++ es)))) else none
  | _, _ => none
def ext_ (i : Nat) (r : Option (Hd × S)) : Option (D × S) := match r with | some (h, st1) => ext1_ i (h.get st1) (gt st1 i) st1 | none => none
theorem mExt_r (i o st) {ds : List D} (h : gt st i = some (.lst true ds)) : mExt i o st = ext_ i (o st) := by unfold mExt; rw [h]; rfl
@[simp] theorem ext_s (i h st) : ext_ i (some (h, st)) = ext1_ i (h.get st) (gt st i) st := id rfl
@[simp] theorem ext1_s (i o es ds st) : ext1_ i (some (.lst o es)) (some (.lst true ds)) st = if plain ds = true ∧ plain es = true ∧ ds.length + es.length ≤ 16777216 then some (.non, pt st i (some (.lst true (ds ++ es)))) else none := id rfl
def put2_ (i : Nat) (r : Option D) (st : S) : Option (Fl × S) := match r with | some z => some (.nx, pt st i (some z)) | none => none
@[simp] theorem put2_s (i z st) : put2_ i (some z) st = some (.nx, pt st i (some z)) := id rfl
def put1_ (i : Nat) (e : D) (a b : Option D) (st2 : S) : Option (Fl × S) := match a, b with | some k, some d => put2_ i (gPut d k e) st2 | _, _ => none
@[simp] theorem put1_s (i e k d st) : put1_ i e (some k) (some d) st = put2_ i (gPut d k e) st := id rfl
def put0_ (i : Nat) (e : D) (r : Option (Hd × S)) : Option (Fl × S) := match r with | some (h, st2) => put1_ i e (h.get st2) (gt st2 i) st2 | none => none
@[simp] theorem put0_s (i e h st) : put0_ i e (some (h, st)) = put1_ i e (h.get st) (gt st i) st := id rfl
def putA_ (i : Nat) (ok : OM) (e : D) (o : Option D) (st1 : S) : Option (Fl × S) := match o with | some _ => put0_ i e (ok st1) | none => none
@[simp] theorem putA_s (i ok e d st) : putA_ i ok e (some d) st = put0_ i e (ok st) := id rfl
def put_ (i : Nat) (ok : OM) (r : Option (D × S)) : Option (Fl × S) := match r with | some (e, st1) => putA_ i ok e (gt st1 i) st1 | none => none
@[simp] theorem put_s (i ok e st) : put_ i ok (some (e, st)) = putA_ i ok e (gt st i) st := id rfl
@[simp] theorem mPut_r (i ok me st) : mPut i ok me st = put_ i ok (me st) := by
  unfold mPut put_
  cases me st with
  | none => rfl
  | some w =>
    obtain ⟨e, st1⟩ := w
    simp only
    unfold putA_
    cases gt st1 i with
    | none => rfl
    | some d0 =>
      simp only
      unfold put0_
      cases ok st1 with
      | none => rfl
      | some w =>
        obtain ⟨h, st2⟩ := w
        simp only
        unfold put1_
        cases h.get st2 with
        | none => rfl
        | some k =>
          cases gt st2 i with
          | none => rfl
          | some d =>
            simp only
            unfold put2_
            cases gPut d k e <;> rfl
/-! targets -/
@[simp] theorem gTp_tup (ms ds st) : gTp ms (.tup ds) st = ms ds st := id rfl
@[simp] theorem gNi_nil (st) : gNi [] st = some st := id rfl
def co_ (ms : GMs) (r : List D) (x : Option S) : Option S := match x with | some st1 => ms r st1 | none => none
@[simp] theorem gCo_cons (m ms d r st) : gCo m ms (d :: r) st = co_ ms r (m d st) := id rfl
@[simp] theorem co_s (ms r st) : co_ ms r (some st) = ms r st := id rfl
def as1_ (r : Option S) : Option (Fl × S) := match r with | some st2 => some (.nx, st2) | none => none
@[simp] theorem as1_s (st) : as1_ (some st) = some (.nx, st) := id rfl
def as_ (g : GM) (r : Option (D × S)) : Option (Fl × S) := match r with | some (d, st1) => as1_ (g d st1) | none => none
@[simp] theorem mAs_r (g m st) : mAs g m st = as_ g (m st) := id rfl
@[simp] theorem as_s (g d st) : as_ g (some (d, st)) = as1_ (g d st) := id rfl
/-! walks -/
def wsq1_ (o : Option (List D)) (st : S) : Option (List D × S) := match o with | some ds => some (ds, st) | none => none
def wsq_ (r : Option (D × S)) : Option (List D × S) := match r with | some (d, st1) => wsq1_ (itemsOf d) st1 | none => none
@[simp] theorem wSq_r (m st) : wSq m st = wsq_ (m st) := id rfl
@[simp] theorem wsq_s (d st) : wsq_ (some (d, st)) = wsq1_ (itemsOf d) st := id rfl
@[simp] theorem wsq1_s (ds st) : wsq1_ (some ds) st = some (ds, st) := id rfl
@[simp] theorem itemsOf_lst (o ds) : itemsOf (.lst o ds) = some ds := id rfl
@[simp] theorem itemsOf_tup (ds) : itemsOf (.tup ds) = some ds := id rfl
@[simp] theorem itemsOf_fro (ds) : itemsOf (.fro ds) = some ds := id rfl
def wen1_ (o : Option (List D)) (st : S) : Option (List D × S) := match o with | some ds => some (enumD 0 ds, st) | none => none
def wen_ (r : Option (D × S)) : Option (List D × S) := match r with | some (d, st1) => wen1_ (itemsOf d) st1 | none => none
@[simp] theorem wEn_r (m st) : wEn m st = wen_ (m st) := id rfl
@[simp] theorem wen_s (d st) : wen_ (some (d, st)) = wen1_ (itemsOf d) st := id rfl
@[simp] theorem wen1_s (ds st) : wen1_ (some ds) st = some (enumD 0 ds, st) := id rfl
def wr1_ (r : Option (D × S)) : Option (List D × S) := match r with | some (.int j, st1) => if -4611686018427387904 ≤ j ∧ j < 4611686018427387904 then some (rngD 0 j.toNat, st1) else none | _ => none
@[simp] theorem wR1_r (m st) : wR1 m st = wr1_ (m st) := id rfl
@[simp] theorem wr1_s (j st) : wr1_ (some (.int j, st)) = if -4611686018427387904 ≤ j ∧ j < 4611686018427387904 then some (rngD 0 j.toNat, st) else none := id rfl
def wr2b_ (i : Int) (r : Option (D × S)) : Option (List D × S) := match r with | some (.int j, st2) => if (-4611686018427387904 ≤ i ∧ i < 4611686018427387904) ∧ -4611686018427387904 ≤ j ∧ j < 4611686018427387904 then some (rngD i (j - i).toNat, st2) else none | _ => none
def wr2_ (n : EM) (r : Option (D × S)) : Option (List D × S) := match r with | some (.int i, st1) => wr2b_ i (n st1) | _ => none
@[simp] theorem wR2_r (m n st) : wR2 m n st = wr2_ n (m st) := id rfl
@[simp] theorem wr2_s (n i st) : wr2_ n (some (.int i, st)) = wr2b_ i (n st) := id rfl
@[simp] theorem wr2b_s (i j st) : wr2b_ i (some (.int j, st)) = if (-4611686018427387904 ≤ i ∧ i < 4611686018427387904) ∧ -4611686018427387904 ≤ j ∧ j < 4611686018427387904 then some (rngD i (j - i).toNat, st) else none := id rfl
def for_ (tg : GM) (body : SM) (r : Option (List D × S)) : Option (Fl × S) := match r with | some (ds, st1) => forGo tg body ds st1 | none => none
@[simp] theorem mFor_r (it tg body st) : mFor it tg body st = for_ tg body (it st) := id rfl
@[simp] theorem for_s (tg body ds st) : for_ tg body (some (ds, st)) = forGo tg body ds st := id rfl
@[simp] theorem forGo_nil (tg body st) : forGo tg body [] st = some (.nx, st) := id rfl
def fg2_ (tg : GM) (body : SM) (ds : List D) (r : Option (Fl × S)) : Option (Fl × S) := match r with
  | some (.nx, st2) => forGo tg body ds st2
  | some (.ct, st2) => forGo tg body ds st2
  | some (.bk, st2) => some (.nx, st2)
  | some (.rt x, st2) => some (.rt x, st2)
  | none => none
@[simp] theorem fg2_nx (tg body ds st) : fg2_ tg body ds (some (.nx, st)) = forGo tg body ds st := id rfl
@[simp] theorem fg2_ct (tg body ds st) : fg2_ tg body ds (some (.ct, st)) = forGo tg body ds st := id rfl
@[simp] theorem fg2_bk (tg body ds st) : fg2_ tg body ds (some (.bk, st)) = some (.nx, st) := id rfl
@[simp] theorem fg2_rt (tg body ds x st) : fg2_ tg body ds (some (.rt x, st)) = some (.rt x, st) := id rfl
def fg1_ (tg : GM) (body : SM) (ds : List D) (r : Option S) : Option (Fl × S) := match r with | some st1 => fg2_ tg body ds (body st1) | none => none
@[simp] theorem fg1_s (tg body ds st) : fg1_ tg body ds (some st) = fg2_ tg body ds (body st) := id rfl
@[simp] theorem forGo_cons (tg body d ds st) : forGo tg body (d :: ds) st = fg1_ tg body ds (tg d st) := by
  show (match tg d st with
    | some st1 => match body st1 with
      | some (.nx, st2) => forGo tg body ds st2
      | some (.ct, st2) => forGo tg body ds st2
      | some (.bk, st2) => some (.nx, st2)
      | some (.rt x, st2) => some (.rt x, st2)
      | none => none
    | none => none) = _
  unfold fg1_
  cases tg d st with
  | none => rfl
  | some st1 =>
    simp only
    unfold fg2_
    cases body st1 with
    | none => rfl
    | some w =>
      obtain ⟨fl, st2⟩ := w
      cases fl <;> rfl
def forb_ (i : Nat) (ds : List D) (r : Option (Fl × S)) : Option (Fl × S) := match r with | some (fl, st2) => (match gt st2 i with | none => some (fl, pt st2 i (some (.lst true ds))) | some _ => none) | none => none
theorem forb_s (i ds fl st) (h : gt st i = none) : forb_ i ds (some (fl, st)) = some (fl, pt st i (some (.lst true ds))) := by unfold forb_; simp only [h]
theorem mForB_own (i tg body st) {ds : List D} (h : gt st i = some (.lst true ds)) (p : plain ds = true) : mForB i tg body st = forb_ i ds (forGo tg body ds (pt st i none)) := by
  unfold mForB
  have : ownL (gt st i) = some ds := by rw [h]; unfold ownL; simp only [p]
  rw [this]
  rfl
theorem mForB_not (i tg body st) (h : ownL (gt st i) = none) : mForB i tg body st = mFor (wSq (mNm i)) tg body st := by unfold mForB; rw [h]
/-! comprehensions -/
def lc2_ (own : List Nat) (st1 : S) (r : Option (List D × S)) : Option (D × S) := match r with | some (acc, st2) => some (.lst true acc, backD st1 st2 own) | none => none
@[simp] theorem lc2_s (own st1 acc st2) : lc2_ own st1 (some (acc, st2)) = some (.lst true acc, backD st1 st2 own) := id rfl
def lc_ (own : List Nat) (tg : GM) (c : TM) (el : EM) (r : Option (List D × S)) : Option (D × S) := match r with
  | some (ds, st1) => if noOwn st1 own = true then lc2_ own st1 (lcGo own tg c el ds (wipeD st1 own) []) else none
  | none => none
@[simp] theorem mLc_r (own it tg c el st) : mLc own it tg c el st = lc_ own tg c el (it st) := by
  unfold mLc lc_
  cases it st with
  | none => rfl
  | some w =>
    obtain ⟨ds, st1⟩ := w
    simp only
    cases noOwn st1 own with
    | false => rfl
    | true =>
      simp only [if_true]
      rfl
@[simp] theorem lc_s (own tg c el ds st1) : lc_ own tg c el (some (ds, st1)) = if noOwn st1 own = true then lc2_ own st1 (lcGo own tg c el ds (wipeD st1 own) []) else none := id rfl
@[simp] theorem lcGo_nil (own tg c el st acc) : lcGo own tg c el [] st acc = some (acc, st) := id rfl
def lg3_ (own : List Nat) (tg : GM) (c : TM) (el : EM) (ds acc : List D) (r : Option (D × S)) : Option (List D × S) := match r with | some (x, st3) => if acc.length < 16777216 then lcGo own tg c el ds (wipeD st3 own) (acc ++ [x]) else none | none => none
@[simp] theorem lg3_s (own tg c el ds acc x st) : lg3_ own tg c el ds acc (some (x, st)) = if acc.length < 16777216 then lcGo own tg c el ds (wipeD st own) (acc ++ [x]) else none := id rfl
def lg2_ (own : List Nat) (tg : GM) (c : TM) (el : EM) (ds acc : List D) (r : Option (Bool × S)) : Option (List D × S) := match r with | some (true, st2) => lg3_ own tg c el ds acc (el st2) | some (false, st2) => lcGo own tg c el ds (wipeD st2 own) acc | none => none
@[simp] theorem lg2_t (own tg c el ds acc st) : lg2_ own tg c el ds acc (some (true, st)) = lg3_ own tg c el ds acc (el st) := id rfl
@[simp] theorem lg2_f (own tg c el ds acc st) : lg2_ own tg c el ds acc (some (false, st)) = lcGo own tg c el ds (wipeD st own) acc := id rfl
def lg1_ (own : List Nat) (tg : GM) (c : TM) (el : EM) (ds acc : List D) (r : Option S) : Option (List D × S) := match r with | some st1 => lg2_ own tg c el ds acc (c st1) | none => none
@[simp] theorem lg1_s (own tg c el ds acc st) : lg1_ own tg c el ds acc (some st) = lg2_ own tg c el ds acc (c st) := id rfl
@[simp] theorem lcGo_cons (own tg c el d ds st acc) : lcGo own tg c el (d :: ds) st acc = lg1_ own tg c el ds acc (tg d st) := by
  show (match tg d st with
    | some st1 => match c st1 with
      | some (true, st2) => match el st2 with
        | some (x, st3) => if acc.length < 16777216 then lcGo own tg c el ds (wipeD st3 own) (acc ++ [x]) else none
        | none => none
      | some (false, st2) => lcGo own tg c el ds (wipeD st2 own) acc
      | none => none
    | none => none) = _
  unfold lg1_
  cases tg d st with
  | none => rfl
  | some st1 =>
    simp only
    unfold lg2_
    cases c st1 with
    | none => rfl
    | some w =>
      obtain ⟨b, st2⟩ := w
      cases b with
      | false => rfl
      | true =>
        simp only
        unfold lg3_
        cases el st2 <;> rfl
@[simp] theorem wipeD_nil (st) : wipeD st [] = st := id rfl
@[simp] theorem wipeD_cons (st v vs) : wipeD st (v :: vs) = pt (wipeD st vs) v none := id rfl
@[simp] theorem backD_nil (st0 st) : backD st0 st [] = st := id rfl
@[simp] theorem backD_cons (st0 st v vs) : backD st0 st (v :: vs) = pt (backD st0 st vs) v (gt st0 v) := id rfl
def noO_ (o : Option D) : Bool := match o with | some d => !d.own | none => true
@[simp] theorem noO_s (d) : noO_ (some d) = !d.own := id rfl
@[simp] theorem noO_n : noO_ none = true := id rfl
@[simp] theorem noOwn_nil (st) : noOwn st [] = true := id rfl
@[simp] theorem noOwn_cons (st v vs) : noOwn st (v :: vs) = (noO_ (gt st v) && noOwn st vs) := by
  show ((match gt st v with | some d => !d.own | none => true) && noOwn st vs) = _
  unfold noO_
  cases gt st v <;> rfl
theorem mLcB_own (i own tg c el st) {ds acc : List D} {st2 : S} (h : gt st i = some (.lst true ds)) (p : plain ds = true) (n : noOwn (pt st i none) own = true) (hi : own.contains i = false) (e : lcGo own tg c el ds (wipeD (pt st i none) own) [] = some (acc, st2)) (q : gt (backD (pt st i none) st2 own) i = none) :
    mLcB i own tg c el st = some (.lst true acc, pt (backD (pt st i none) st2 own) i (some (.lst true ds))) := by
  have h0 : ownL (gt st i) = some ds := by rw [h]; unfold ownL; simp only [p]
  unfold mLcB
  rw [h0]
  simp only [n, hi, Bool.not_false, Bool.and_true, e, q]
/-! calls -/
def cl3_ (md : List Bool) (ls : List Ar) (st1 : S) (r : Option (D × S)) : Option (D × S) := match r with | some (r, outs) => some (r, afterD md ls outs st1) | none => none
@[simp] theorem cl3_s (md ls st1 r outs) : cl3_ md ls st1 (some (r, outs)) = some (r, afterD md ls outs st1) := id rfl
def cl2_ (md : List Bool) (fm : FM) (ls : List Ar) (st1 : S) (o : Option (List D)) : Option (D × S) := match o with | some ds => cl3_ md ls st1 (fm ds) | none => none
@[simp] theorem cl2_s (md fm ls st1 ds) : cl2_ md fm ls st1 (some ds) = cl3_ md ls st1 (fm ds) := id rfl
def cl_ (md : List Bool) (fm : FM) (r : Option (List Ar × S)) : Option (D × S) := match r with
  | some (ls, st1) => if (rfs ls).Nodup then cl2_ md fm ls st1 (argsOf md ls st1) else none
  | none => none
@[simp] theorem cl_s (md fm ls st1) : cl_ md fm (some (ls, st1)) = if (rfs ls).Nodup then cl2_ md fm ls st1 (argsOf md ls st1) else none := id rfl
@[simp] theorem mCall_r (md fm am st) : mCall md fm am st = cl_ md fm (am st) := by
  unfold mCall cl_
  cases am st with
  | none => rfl
  | some w =>
    obtain ⟨ls, st1⟩ := w
    simp only
    by_cases h : (rfs ls).Nodup
    · rw [if_pos h, decide_eq_true h]
      simp only
      unfold cl2_
      cases argsOf md ls st1 with
      | none => rfl
      | some ds =>
        simp only
        unfold cl3_
        cases fm ds <;> rfl
    · rw [if_neg h, decide_eq_false h]
@[simp] theorem rfs_nil : rfs [] = [] := id rfl
@[simp] theorem rfs_rf (i ls) : rfs (.rf i :: ls) = i :: rfs ls := id rfl
@[simp] theorem rfs_dt (d ls) : rfs (.dt d :: ls) = rfs ls := id rfl
@[simp] theorem argsOf_nil (st) : argsOf [] [] st = some [] := id rfl
@[simp] theorem argsOf_dtT (bs d ls st) : argsOf (true :: bs) (.dt d :: ls) st = dcons_ d (argsOf bs ls st) := by
  show (match (!true && d.own) with | true => none | false => match argsOf bs ls st with | some ds => some (d :: ds) | none => none) = _
  rfl
@[simp] theorem argsOf_dtF (bs d ls st) : argsOf (false :: bs) (.dt d :: ls) st = if d.own = true then none else dcons_ d (argsOf bs ls st) := by
  show (match (!false && d.own) with | true => none | false => match argsOf bs ls st with | some ds => some (d :: ds) | none => none) = _
  cases d.own <;> rfl
def arg_ (b : Bool) (o : Option D) (r : Option (List D)) : Option (List D) := match o with | some d => if (!b && d.own) = true then none else dcons_ d r | none => none
@[simp] theorem arg_t (d r) : arg_ true (some d) r = dcons_ d r := id rfl
@[simp] theorem arg_f (d r) : arg_ false (some d) r = if d.own = true then none else dcons_ d r := id rfl
@[simp] theorem argsOf_rf (b bs i ls st) : argsOf (b :: bs) (.rf i :: ls) st = arg_ b (gt st i) (argsOf bs ls st) := by
  show (match gt st i with | some d => (match !b && d.own with | true => none | false => match argsOf bs ls st with | some ds => some (d :: ds) | none => none) | none => none) = _
  unfold arg_
  cases gt st i with
  | none => rfl
  | some d =>
    simp only
    cases (!b && d.own) <;> rfl
@[simp] theorem afterD_nil (md outs st) : afterD md [] outs st = st := by unfold afterD; split <;> simp_all
@[simp] theorem afterD_rfT (bs i ls o outs st) : afterD (true :: bs) (.rf i :: ls) (o :: outs) st = afterD bs ls outs (pt st i o) := id rfl
@[simp] theorem afterD_rfF (bs i ls o outs st) : afterD (false :: bs) (.rf i :: ls) (o :: outs) st = afterD bs ls outs st := id rfl
@[simp] theorem afterD_dt (b bs d ls o outs st) : afterD (b :: bs) (.dt d :: ls) (o :: outs) st = afterD bs ls outs st := by cases b <;> rfl
def fn_ (md : List Bool) (r : Option (Fl × S)) : Option (D × S) := match r with
  | some (.rt r, st') => some (r, outsOf md st')
  | some (.nx, st') => some (.non, outsOf md st')
  | _ => none
theorem fnM_r (n md body ds) : fnM n md body ds = fn_ md (body (ds.map some ++ List.replicate (n - ds.length) none)) := rfl
@[simp] theorem fn_rt (md r st) : fn_ md (some (.rt r, st)) = some (r, outsOf md st) := id rfl
@[simp] theorem fn_nx (md st) : fn_ md (some (.nx, st)) = some (.non, outsOf md st) := id rfl
@[simp] theorem outsOf_nil (st) : outsOf [] st = [] := by cases st <;> rfl
@[simp] theorem outsOf_t (bs o st) : outsOf (true :: bs) (o :: st) = o :: outsOf bs st := id rfl
@[simp] theorem outsOf_f (bs o st) : outsOf (false :: bs) (o :: st) = none :: outsOf bs st := id rfl
/-! operations -/
@[simp] theorem gAdd_int (i j) : gAdd (.int i) (.int j) = some (.int (i + j)) := id rfl
@[simp] theorem gAdd_lst (o p xs ys) : gAdd (.lst o xs) (.lst p ys) = if plain xs = true ∧ plain ys = true ∧ xs.length + ys.length ≤ 16777216 then some (.lst true (xs ++ ys)) else none := id rfl
@[simp] theorem gAdd_tup (xs ys) : gAdd (.tup xs) (.tup ys) = if xs.length + ys.length ≤ 16777216 then some (.tup (xs ++ ys)) else none := id rfl
@[simp] theorem gSub_int (i j) : gSub (.int i) (.int j) = some (.int (i - j)) := id rfl
@[simp] theorem gMul_int (i j) : gMul (.int i) (.int j) = if (-18446744073709551616 < i ∧ i < 18446744073709551616) ∨ (-18446744073709551616 < j ∧ j < 18446744073709551616) then some (.int (i * j)) else none := id rfl
@[simp] theorem gMod_int (i j) : gMod (.int i) (.int j) = if 0 < j then some (.int (i % j)) else none := id rfl
@[simp] theorem gDiv_int (i j) : gDiv (.int i) (.int j) = if 0 < j ∧ j < 18446744073709551616 then some (.int (i / j)) else none := id rfl
@[simp] theorem gPow_int (i j) : gPow (.int i) (.int j) = if 0 ≤ j ∧ j ≤ 1000000 ∧ i.natAbs < 18446744073709551616 then some (.int (i ^ j.toNat)) else none := id rfl
@[simp] theorem gNeg_int (i) : gNeg (.int i) = some (.int (-i)) := id rfl
@[simp] theorem cI_int (p i j) : cI p (.int i) (.int j) = some (p i j) := id rfl
@[simp] theorem gLen_lst (o ds) : gLen (.lst o ds) = some (.int ds.length) := id rfl
@[simp] theorem gLen_tup (ds) : gLen (.tup ds) = some (.int ds.length) := id rfl
@[simp] theorem gLen_fro (ds) : gLen (.fro ds) = some (.int ds.length) := id rfl
@[simp] theorem gLen_dic (o ks ds) : gLen (.dic o ks ds) = some (.int ks.length) := id rfl
@[simp] theorem gAbs_int (i) : gAbs (.int i) = some (.int (if i < 0 then -i else i)) := id rfl
@[simp] theorem gInt_int (i) : gInt (.int i) = some (.int i) := id rfl
@[simp] theorem gInt_bl (b) : gInt (.bl b) = some (.int (if b = true then 1 else 0)) := id rfl
@[simp] theorem gList_lst (o ds) : gList (.lst o ds) = if plain ds = true then some (.lst true ds) else none := id rfl
@[simp] theorem gList_tup (ds) : gList (.tup ds) = if plain ds = true then some (.lst true ds) else none := id rfl
@[simp] theorem gList_fro (ds) : gList (.fro ds) = if plain ds = true then some (.lst true ds) else none := id rfl
@[simp] theorem gTuple_lst (o ds) : gTuple (.lst o ds) = if plain ds = true then some (.tup ds) else none := id rfl
@[simp] theorem gTuple_tup (ds) : gTuple (.tup ds) = some (.tup ds) := id rfl
@[simp] theorem gTuple_fro (ds) : gTuple (.fro ds) = some (.tup ds) := id rfl
@[simp] theorem gIx_lst (o ds i) : gIx (.lst o ds) (.int i) = free (atI ds i) := id rfl
@[simp] theorem gIx_tup (ds i) : gIx (.tup ds) (.int i) = free (atI ds i) := id rfl
@[simp] theorem gIx_fro (ds i) : gIx (.fro ds) (.int i) = free (atI ds i) := id rfl
@[simp] theorem free_int (i) : free (some (.int i)) = some (.int i) := id rfl
@[simp] theorem free_bl (i) : free (some (.bl i)) = some (.bl i) := id rfl
@[simp] theorem free_str (i) : free (some (.str i)) = some (.str i) := id rfl
@[simp] theorem free_non : free (some .non) = some .non := id rfl
@[simp] theorem free_tup (ds) : free (some (.tup ds)) = some (.tup ds) := id rfl
@[simp] theorem free_fro (ds) : free (some (.fro ds)) = some (.fro ds) := id rfl
@[simp] theorem free_lstF (ds) : free (some (.lst false ds)) = some (.lst false ds) := id rfl
@[simp] theorem gIsT_r (t d) : gIsT t d = some (.bl (isT t d)) := id rfl
@[simp] theorem isT_int_non : isT .int .non = false := id rfl
@[simp] theorem isT_int_bl (b) : isT .int (.bl b) = true := id rfl
@[simp] theorem isT_int_int (b) : isT .int (.int b) = true := id rfl
@[simp] theorem isT_int_str (b) : isT .int (.str b) = false := id rfl
@[simp] theorem isT_int_tup (b) : isT .int (.tup b) = false := id rfl
@[simp] theorem isT_int_lst (o b) : isT .int (.lst o b) = false := id rfl
@[simp] theorem isT_int_fro (b) : isT .int (.fro b) = false := id rfl
@[simp] theorem isT_int_dic (o k b) : isT .int (.dic o k b) = false := id rfl
@[simp] theorem isT_bool_non : isT .bool .non = false := id rfl
@[simp] theorem isT_bool_bl (b) : isT .bool (.bl b) = true := id rfl
@[simp] theorem isT_bool_int (b) : isT .bool (.int b) = false := id rfl
@[simp] theorem isT_bool_str (b) : isT .bool (.str b) = false := id rfl
@[simp] theorem isT_bool_tup (b) : isT .bool (.tup b) = false := id rfl
@[simp] theorem isT_bool_lst (o b) : isT .bool (.lst o b) = false := id rfl
@[simp] theorem isT_bool_fro (b) : isT .bool (.fro b) = false := id rfl
@[simp] theorem isT_bool_dic (o k b) : isT .bool (.dic o k b) = false := id rfl
@[simp] theorem isT_str_non : isT .str .non = false := id rfl
@[simp] theorem isT_str_bl (b) : isT .str (.bl b) = false := id rfl
@[simp] theorem isT_str_int (b) : isT .str (.int b) = false := id rfl
@[simp] theorem isT_str_str (b) : isT .str (.str b) = true := id rfl
@[simp] theorem isT_str_tup (b) : isT .str (.tup b) = false := id rfl
@[simp] theorem isT_str_lst (o b) : isT .str (.lst o b) = false := id rfl
@[simp] theorem isT_str_fro (b) : isT .str (.fro b) = false := id rfl
@[simp] theorem isT_str_dic (o k b) : isT .str (.dic o k b) = false := id rfl
@[simp] theorem isT_tuple_non : isT .tuple .non = false := id rfl
@[simp] theorem isT_tuple_bl (b) : isT .tuple (.bl b) = false := id rfl
@[simp] theorem isT_tuple_int (b) : isT .tuple (.int b) = false := id rfl
@[simp] theorem isT_tuple_str (b) : isT .tuple (.str b) = false := id rfl
@[simp] theorem isT_tuple_tup (b) : isT .tuple (.tup b) = true := id rfl
@[simp] theorem isT_tuple_lst (o b) : isT .tuple (.lst o b) = false := id rfl
@[simp] theorem isT_tuple_fro (b) : isT .tuple (.fro b) = false := id rfl
@[simp] theorem isT_tuple_dic (o k b) : isT .tuple (.dic o k b) = false := id rfl
@[simp] theorem isT_list_non : isT .list .non = false := id rfl
@[simp] theorem isT_list_bl (b) : isT .list (.bl b) = false := id rfl
@[simp] theorem isT_list_int (b) : isT .list (.int b) = false := id rfl
@[simp] theorem isT_list_str (b) : isT .list (.str b) = false := id rfl
@[simp] theorem isT_list_tup (b) : isT .list (.tup b) = false := id rfl
@[simp] theorem isT_list_lst (o b) : isT .list (.lst o b) = true := id rfl
@[simp] theorem isT_list_fro (b) : isT .list (.fro b) = true := id rfl
@[simp] theorem isT_list_dic (o k b) : isT .list (.dic o k b) = false := id rfl
@[simp] theorem isT_dict_non : isT .dict .non = false := id rfl
@[simp] theorem isT_dict_bl (b) : isT .dict (.bl b) = false := id rfl
@[simp] theorem isT_dict_int (b) : isT .dict (.int b) = false := id rfl
@[simp] theorem isT_dict_str (b) : isT .dict (.str b) = false := id rfl
@[simp] theorem isT_dict_tup (b) : isT .dict (.tup b) = false := id rfl
@[simp] theorem isT_dict_lst (o b) : isT .dict (.lst o b) = false := id rfl
@[simp] theorem isT_dict_fro (b) : isT .dict (.fro b) = false := id rfl
@[simp] theorem isT_dict_dic (o k b) : isT .dict (.dic o k b) = true := id rfl
@[simp] theorem plain_nil : plain [] = true := id rfl
@[simp] theorem plain_cons (d ds) : plain (d :: ds) = (!d.own && plain ds) := id rfl
@[simp] theorem plain_append (ds es) : plain (ds ++ es) = (plain ds && plain es) := by unfold plain; rw [List.all_append]
@[simp] theorem isNon_non : isNon .non = true := id rfl
@[simp] theorem cIsN_r (d) : cIsN d .non = some (isNon d) := by unfold cIsN; cases d <;> rfl
def ne_ (o : Option Bool) : Option Bool := match o with | some b => some (!b) | none => none
@[simp] theorem ne_s (b) : ne_ (some b) = some (!b) := id rfl
@[simp] theorem cNe_r (d e) : cNe d e = ne_ (cEq d e) := id rfl
@[simp] theorem cNoN_r (d e) : cNoN d e = ne_ (cIsN d e) := id rfl
@[simp] theorem cNi_r (d e) : cNi d e = ne_ (cIn d e) := id rfl
/-! places -/
theorem atI_n {α : Type} (xs : List α) (n : Nat) : atI xs (n : Int) = xs[n]? := by
  by_cases h : n < xs.length
  · rw [List.getElem?_eq_getElem h]
    exact atI_nat (List.getElem?_eq_getElem h)
  · rw [List.getElem?_eq_none (by omega)]
    unfold atI ixN
    rw [if_pos (by omega), if_neg (by omega)]
    rfl
@[simp] theorem atI_0 {α : Type} (x : α) (xs : List α) : atI (x :: xs) 0 = some x := atI_n (x :: xs) 0
@[simp] theorem atI_1 {α : Type} (x y : α) (xs : List α) : atI (x :: y :: xs) 1 = some y := atI_n (x :: y :: xs) 1
@[simp] theorem atI_2 {α : Type} (x y z : α) (xs : List α) : atI (x :: y :: z :: xs) 2 = some z := atI_n (x :: y :: z :: xs) 2
@[simp] theorem atI_3 {α : Type} (x y z w : α) (xs : List α) : atI (x :: y :: z :: w :: xs) 3 = some w := atI_n (x :: y :: z :: w :: xs) 3
theorem atI_i {α : Type} (xs : List α) (i : Int) (h : 0 ≤ i) : atI xs i = xs[i.toNat]? := by
  have := atI_n xs i.toNat
  rwa [Int.toNat_of_nonneg h] at this
theorem ixN_n (n j : Nat) : ixN n (j : Int) = if j < n then some j else none := by
  unfold ixN
  rw [if_pos (by omega)]
  by_cases h : j < n
  · rw [if_pos h, if_pos (by omega)]; rfl
  · rw [if_neg h, if_neg (by omega)]
theorem gPut_n (ds : List D) (j : Nat) (e : D) (h : j < ds.length) (p : plain ds = true) : gPut (.lst true ds) (.int (j : Int)) e = some (.lst true (ds.set j e)) := by
  show (match ixN ds.length (j : Int) with | some n => if plain ds = true then some (D.lst true (ds.set n e)) else none | none => none) = _
  rw [ixN_n, if_pos h]
  simp only
  rw [if_pos p]
@[simp] theorem gPut_0 (d : D) (ds : List D) (e : D) : gPut (.lst true (d :: ds)) (.int 0) e = if plain (d :: ds) = true then some (.lst true (e :: ds)) else none := by
  by_cases p : plain (d :: ds) = true
  · rw [if_pos p]; exact gPut_n (d :: ds) 0 e (by simp) p
  · rw [if_neg p]
    show (match ixN (d :: ds).length ((0 : Nat) : Int) with | some n => if plain (d :: ds) = true then some (D.lst true ((d :: ds).set n e)) else none | none => none) = _
    rw [ixN_n]
    split
    · rw [if_neg p]
    · rfl
@[simp] theorem gPut_1 (d d' : D) (ds : List D) (e : D) : gPut (.lst true (d :: d' :: ds)) (.int 1) e = if plain (d :: d' :: ds) = true then some (.lst true (d :: e :: ds)) else none := by
  by_cases p : plain (d :: d' :: ds) = true
  · rw [if_pos p]; exact gPut_n (d :: d' :: ds) 1 e (by simp) p
  · rw [if_neg p]
    show (match ixN (d :: d' :: ds).length ((1 : Nat) : Int) with | some n => if plain (d :: d' :: ds) = true then some (D.lst true ((d :: d' :: ds).set n e)) else none | none => none) = _
    rw [ixN_n]
    split
    · rw [if_neg p]
    · rfl
end MP

/-! MPE: facts used where the denotations are run. -/
namespace MP
open PySem L2
@[simp] theorem cEq_int (i j : Int) : cEq (.int i) (.int j) = some (decide (i = j)) := by
  show some (i == j) = _
  congr 1
@[simp] theorem cEq_bl (i j : Bool) : cEq (.bl i) (.bl j) = some (decide (i = j)) := by
  show some (i == j) = _
  congr 1
@[simp] theorem cEq_str (i j : Str) : cEq (.str i) (.str j) = some (decide (i = j)) := id rfl
@[simp] theorem em_lt {a M : Int} (h1 : 0 < M) (h2 : M ≤ 18446744073709551616) : (a % M < 18446744073709551616) = True := eq_true (by have := Int.emod_lt_of_pos a h1; omega)
@[simp] theorem em_gt {a M : Int} (h1 : 0 < M) : (-18446744073709551616 < a % M) = True := eq_true (by have := Int.emod_nonneg a (show M ≠ 0 by omega); omega)
/-! ### what == can look at -/
/-- ints, bools, None, and tuples and lists of such, n deep -/
def nice : Nat → D → Bool
  | _, .int _ => true
  | _, .bl _ => true
  | _, .non => true
  | n + 1, .tup ds => ds.all (nice n)
  | n + 1, .lst _ ds => ds.all (nice n)
  | n + 1, .fro ds => ds.all (nice n)
  | _, _ => false
theorem nice_pys {n : Nat} (ih : ∀ d, nice n d = true → ∃ p, d.py = some p ∧ p.canLay0 = true ∧ p.depth ≤ n) : ∀ ds : List D, ds.all (nice n) = true → ∃ ps, D.pys ds = some ps ∧ PyData.canLayAll0 ps = true ∧ PyData.depthAll ps ≤ n ∧ ps.length = ds.length
  | [], _ => ⟨[], rfl, rfl, Nat.zero_le _, rfl⟩
  | d :: ds, h => by
    rw [List.all_cons, Bool.and_eq_true] at h
    obtain ⟨p, e1, c1, d1⟩ := ih d h.1
    obtain ⟨ps, e2, c2, d2, l2⟩ := nice_pys ih ds h.2
    refine ⟨p :: ps, ?_, ?_, ?_, by rw [List.length_cons, List.length_cons, l2]⟩
    · show (match d.py, D.pys ds with | some p, some ps => some (p :: ps) | _, _ => none) = _
      rw [e1, e2]
    · show (p.canLay0 && PyData.canLayAll0 ps) = true
      rw [c1, c2]; rfl
    · show max p.depth (PyData.depthAll ps) ≤ n
      omega
theorem nice_py : ∀ (n : Nat) (d : D), nice n d = true → ∃ p, d.py = some p ∧ p.canLay0 = true ∧ p.depth ≤ n
  | n, .int i, _ => ⟨.int i, rfl, rfl, Nat.zero_le _⟩
  | n, .bl i, _ => ⟨.bool i, rfl, rfl, Nat.zero_le _⟩
  | n, .non, _ => ⟨.none, rfl, rfl, Nat.zero_le _⟩
  | n + 1, .tup ds, h => by
    obtain ⟨ps, e, c, d, _⟩ := nice_pys (nice_py n) ds h
    exact ⟨.tuple ps, by show (D.pys ds).map _ = _; rw [e]; rfl, c, Nat.succ_le_succ d⟩
  | n + 1, .lst o ds, h => by
    obtain ⟨ps, e, c, d, _⟩ := nice_pys (nice_py n) ds h
    exact ⟨.list ps, by show (D.pys ds).map _ = _; rw [e]; rfl, c, Nat.succ_le_succ d⟩
  | n + 1, .fro ds, h => by
    obtain ⟨ps, e, c, d, _⟩ := nice_pys (nice_py n) ds h
    exact ⟨.list ps, by show (D.pys ds).map _ = _; rw [e]; rfl, c, Nat.succ_le_succ d⟩
  | _, .str _, h => by cases ‹Nat› <;> cases h
  | _, .dic _ _ _, h => by cases ‹Nat› <;> cases h
  | 0, .tup _, h => by cases h
  | 0, .lst _ _, h => by cases h
  | 0, .fro _, h => by cases h
theorem cEq_py {d e : D} {p q : PyData} (hd : d.py = some p) (he : e.py = some q) (sp : SeqAt.shaped p = true) (sq : SeqAt.shaped q = true) (nd : ∀ x, d ≠ .str x) (ne : ∀ x, e ≠ .str x) : cEq d e = some (PyData.eqv p q) := by
  unfold cEq
  split
  · exact absurd rfl (nd _)
  · exact absurd rfl (nd _)
  · exact absurd rfl (ne _)
  · exact absurd rfl (nd _)
  · exact absurd rfl (ne _)
  · exact absurd rfl (nd _)
  · exact absurd rfl (ne _)
  · rw [hd, he]
    simp only
    rw [if_pos ⟨sp, sq⟩]
theorem nice_shaped {n : Nat} {p : PyData} (h : n ≤ 64) (c : p.canLay0 = true) (d : p.depth ≤ n) : SeqAt.shaped p = true := by
  unfold SeqAt.shaped
  rw [c, decide_eq_true (by omega)]
  rfl
theorem nice_nstr {n : Nat} {d : D} (h : nice n d = true) : ∀ x, d ≠ .str x := fun x e => by
  subst e
  cases n <;> cases h
mutual
theorem eqv_self : ∀ p : PyData, p.canLay0 = true → PyData.eqv p p = true
  | .none, _ => rfl
  | .bool b, _ => by show (b == b) = true; simp
  | .int i, _ => by show (i == i) = true; simp
  | .str x, _ => by show (x == x) = true; simp
  | .list ps, h => eqvAll_self ps h
  | .tuple ps, h => eqvAll_self ps h
  | .dict _, h => by cases h
theorem eqvAll_self : ∀ ps : List PyData, PyData.canLayAll0 ps = true → PyData.eqvAll ps ps = true
  | [], _ => rfl
  | p :: ps, h => by
    have h : (p.canLay0 && PyData.canLayAll0 ps) = true := h
    rw [Bool.and_eq_true] at h
    show (PyData.eqv p p && PyData.eqvAll ps ps) = true
    rw [eqv_self p h.1, eqvAll_self ps h.2]
    rfl
end
/-- a value is as it is, whoever holds it -/
theorem cEq_self {n : Nat} {d e : D} (h : nice n d = true) (hn : n ≤ 64) (he : e.py = d.py) (ne : ∀ x, e ≠ .str x) : cEq d e = some true := by
  obtain ⟨p, e1, c, dd⟩ := nice_py n d h
  rw [cEq_py e1 (he.trans e1) (nice_shaped hn c dd) (nice_shaped hn c dd) (nice_nstr h) ne, eqv_self p c]
/-- xs == [] -/
theorem cEq_lnil {n : Nat} {o o' : Bool} {ds : List D} (h : ds.all (nice n) = true) (hn : n < 64) : cEq (.lst o ds) (.lst o' []) = some ds.isEmpty := by
  obtain ⟨ps, e, c, d, l⟩ := nice_pys (nice_py n) ds h
  have e1 : (D.lst o ds).py = some (.list ps) := by show (D.pys ds).map _ = _; rw [e]; rfl
  rw [cEq_py e1 (q := .list []) rfl (nice_shaped (n := n + 1) (by omega) c (Nat.succ_le_succ d)) rfl (fun x z => by cases z) (fun x z => by cases z)]
  congr 1
  cases ps with
  | nil =>
    cases ds with
    | nil => rfl
    | cons _ _ => cases l
  | cons p ps =>
    cases ds with
    | nil => cases l
    | cons _ _ => rfl
theorem plain_map {α : Type} (f : α → D) (h : ∀ x, (f x).own = false) (l : List α) : plain (l.map f) = true := by
  unfold plain
  rw [List.all_map, List.all_eq_true]
  intro x _
  show (!(f x).own) = true
  rw [h]; rfl
theorem plain_of {ds : List D} (h : ∀ d ∈ ds, d.own = false) : plain ds = true := by
  unfold plain
  rw [List.all_eq_true]
  intro d hd
  rw [h d hd]; rfl
theorem plain_own {ds : List D} (h : plain ds = true) : ∀ d ∈ ds, d.own = false := fun d hd => by
  unfold plain at h
  rw [List.all_eq_true] at h
  simpa using h d hd
theorem fzs_plain {ds : List D} (h : plain ds = true) : D.fzs ds = ds := D.fzs_of (plain_own h)
theorem free_own {d : D} (h : d.own = false) : free (some d) = some d := by unfold free; simp [h]
theorem free_of {ds : List D} (p : plain ds = true) {i : Int} {d : D} (h : atI ds i = some d) : free (atI ds i) = some d := by
  rw [h]
  refine free_own (plain_own p d ?_)
  unfold atI at h
  cases q : ixN ds.length i with
  | none => rw [q] at h; cases h
  | some j =>
    rw [q] at h
    exact List.mem_of_getElem? h
/-! ### loops -/
theorem forGo_inv {tg : GM} {body : SM} (P : Nat → S → Prop) : ∀ (ds : List D) (k : Nat) (st : S), P k st →
    (∀ i d st, ds[i]? = some d → P (k + i) st → ∃ st1 fl st2, tg d st = some st1 ∧ body st1 = some (fl, st2) ∧ (fl = .nx ∨ fl = .ct) ∧ P (k + i + 1) st2) → ∃ st', forGo tg body ds st = some (.nx, st') ∧ P (k + ds.length) st'
  | [], k, st, h, _ => ⟨st, rfl, h⟩
  | d :: ds, k, st, h, g => by
    obtain ⟨st1, fl, st2, e1, e2, e3, h2⟩ := g 0 d st rfl h
    obtain ⟨st', e4, h4⟩ := forGo_inv P ds (k + 1) st2 h2 fun i d st e q => by
      have := g (i + 1) d st (by simpa using e) (by rw [show k + (i + 1) = k + 1 + i by omega]; exact q)
      rw [show k + (i + 1) + 1 = k + 1 + i + 1 by omega] at this
      exact this
    refine ⟨st', ?_, by rw [List.length_cons, show k + (ds.length + 1) = k + 1 + ds.length by omega]; exact h4⟩
    rw [forGo_cons, e1, fg1_s, e2]
    rcases e3 with rfl | rfl
    · exact e4
    · exact e4
/-- .. that may return on its way -/
theorem forGo_or {tg : GM} {body : SM} (P : Nat → S → Prop) (R : D → S → Prop) : ∀ (ds : List D) (k : Nat) (st : S), P k st →
    (∀ i d st, ds[i]? = some d → P (k + i) st → ∃ st1 fl st2, tg d st = some st1 ∧ body st1 = some (fl, st2) ∧ (((fl = .nx ∨ fl = .ct) ∧ P (k + i + 1) st2) ∨ ∃ x, fl = .rt x ∧ R x st2)) →
    ∃ fl st', forGo tg body ds st = some (fl, st') ∧ ((fl = .nx ∧ P (k + ds.length) st') ∨ ∃ x, fl = .rt x ∧ R x st')
  | [], k, st, h, _ => ⟨.nx, st, rfl, .inl ⟨rfl, h⟩⟩
  | d :: ds, k, st, h, g => by
    obtain ⟨st1, fl, st2, e1, e2, e3⟩ := g 0 d st rfl h
    rcases e3 with ⟨e3, h2⟩ | ⟨x, rfl, h2⟩
    · obtain ⟨fl', st', e4, h4⟩ := forGo_or P R ds (k + 1) st2 h2 fun i d st e q => by
        have := g (i + 1) d st (by simpa using e) (by rw [show k + (i + 1) = k + 1 + i by omega]; exact q)
        rw [show k + (i + 1) + 1 = k + 1 + i + 1 by omega] at this
        exact this
      refine ⟨fl', st', ?_, ?_⟩
      · rw [forGo_cons, e1, fg1_s, e2]
        rcases e3 with rfl | rfl
        · exact e4
        · exact e4
      · rw [List.length_cons, show k + (ds.length + 1) = k + 1 + ds.length by omega]
        exact h4
    · exact ⟨.rt x, st2, by rw [forGo_cons, e1, fg1_s, e2]; rfl, .inr ⟨x, rfl, h2⟩⟩
theorem lcGo_inv {own : List Nat} {tg : GM} {c : TM} {el : EM} (P : Nat → S → List D → Prop) : ∀ (ds : List D) (k : Nat) (st : S) (acc : List D), P k st acc →
    (∀ i d st acc, ds[i]? = some d → P (k + i) st acc → ∃ st1 b st2, tg d st = some st1 ∧ c st1 = some (b, st2) ∧ (b = false → P (k + i + 1) (wipeD st2 own) acc) ∧ (b = true → ∃ x st3, el st2 = some (x, st3) ∧ acc.length < 16777216 ∧ P (k + i + 1) (wipeD st3 own) (acc ++ [x]))) →
    ∃ acc' st', lcGo own tg c el ds st acc = some (acc', st') ∧ P (k + ds.length) st' acc'
  | [], k, st, acc, h, _ => ⟨acc, st, rfl, h⟩
  | d :: ds, k, st, acc, h, g => by
    obtain ⟨st1, b, st2, e1, e2, h0, h1⟩ := g 0 d st acc rfl h
    have g' : ∀ i d st acc, ds[i]? = some d → P (k + 1 + i) st acc → ∃ st1 b st2, tg d st = some st1 ∧ c st1 = some (b, st2) ∧ (b = false → P (k + 1 + i + 1) (wipeD st2 own) acc) ∧ (b = true → ∃ x st3, el st2 = some (x, st3) ∧ acc.length < 16777216 ∧ P (k + 1 + i + 1) (wipeD st3 own) (acc ++ [x])) := fun i d st acc e q => by
      have := g (i + 1) d st acc (by simpa using e) (by rw [show k + (i + 1) = k + 1 + i by omega]; exact q)
      rw [show k + (i + 1) + 1 = k + 1 + i + 1 by omega] at this
      exact this
    rw [List.length_cons, show k + (ds.length + 1) = k + 1 + ds.length by omega]
    cases b with
    | false =>
      obtain ⟨acc', st', e4, h4⟩ := lcGo_inv P ds (k + 1) _ _ (h0 rfl) g'
      exact ⟨acc', st', by rw [lcGo_cons, e1, lg1_s, e2]; exact e4, h4⟩
    | true =>
      obtain ⟨x, st3, e3, hl, h2⟩ := h1 rfl
      obtain ⟨acc', st', e4, h4⟩ := lcGo_inv P ds (k + 1) _ _ h2 g'
      refine ⟨acc', st', ?_, h4⟩
      rw [lcGo_cons, e1, lg1_s, e2, lg2_t, e3, lg3_s, if_pos hl]
      exact e4
theorem whGo_step {t : TM} {body : SM} {n : Nat} {st st1 st2 : S} (h1 : t st = some (true, st1)) (h2 : body st1 = some (.nx, st2)) : whGo t body (n + 1) st = whGo t body n st2 := by
  show (match t st with
    | some (false, st1) => some (Fl.nx, st1)
    | some (true, st1) => match body st1 with
      | some (Fl.nx, st2) => whGo t body n st2
      | some (Fl.ct, st2) => whGo t body n st2
      | some (Fl.bk, st2) => some (Fl.nx, st2)
      | some (Fl.rt x, st2) => some (Fl.rt x, st2)
      | none => none
    | none => none) = _
  rw [h1]
  simp only
  rw [h2]
theorem whGo_stop {t : TM} {body : SM} {n : Nat} {st st1 : S} (h1 : t st = some (false, st1)) : whGo t body (n + 1) st = some (.nx, st1) := by
  show (match t st with
    | some (false, st1) => some (Fl.nx, st1)
    | some (true, st1) => match body st1 with
      | some (Fl.nx, st2) => whGo t body n st2
      | some (Fl.ct, st2) => whGo t body n st2
      | some (Fl.bk, st2) => some (Fl.nx, st2)
      | some (Fl.rt x, st2) => some (Fl.rt x, st2)
      | none => none
    | none => none) = _
  rw [h1]
theorem rng_at {lo : Int} {n i : Nat} {d : D} (h : (rngD lo n)[i]? = some d) : i < n ∧ d = .int (lo + i) := rngD_at h
@[simp] theorem rng_len (lo : Int) (n : Nat) : (rngD lo n).length = n := by unfold rngD; simp
end MP

/-! MPZ: a law's def at its script. -/
namespace MP
open PySem L2
theorem law_start {K : PySem.W.Frag} {fm : FM} {H : Hp} {a : Addr} {ns : List Int} {E : XK} (hS : SqL K H a (ns.map V.int)) (h : ∃ outs, fm [.fro (ns.map D.int)] = some (.bl true, outs)) :
    spM K [false] fm [.ref a] H (fun v _ => v = .bl true) E := by
  obtain ⟨outs, e⟩ := h
  refine ⟨fun _ => none, H, [.fro (ns.map D.int)], fun _ => [], .bl true, outs, ⟨rfl, (fun a o z => by cases z), .refl _, fun i d z => ?_, (fun _ _ => rfl), (fun _ => List.nodup_nil), (fun _ _ _ z => by cases z)⟩, rfl, fun _ _ => rfl, e, fun v H' F' fp' fv _ _ rv => ?_⟩
  · cases i with
    | zero =>
      cases z
      exact ⟨_, rfl, .imm (.fro hS (Rps.ofInts ns))⟩
    | succ i => simp at z
  · exact ow_bl rv.ow
end MP

/-! k17: what each def does. -/
namespace Lk17
open PySem L2 MP

def t__law_pool_1 : SM := (mSet 2 (mC (.int 0)))
def t__law_pool_2 : SM := (mIfS (tOf (mBin (liftB cLt) (oNm 1) (oEx (mUn gLen (oNm 0))))) (mSet 2 (mUn gAbs (oEx (mBin gIx (oNm 0) (oNm 1))))) mNx)
def t__law_pool_3 : SM := (mRt (mLst (aDat (mNm 2) (aDat (mFz (mBin gAdd (oEx (mC (.int 3))) (oNm 1))) (aDat (mUn gInt (oEx (mBin (liftB cGe) (oNm 2) (oEx (mBin gPow (oEx (mC (.int 10))) (oEx (mC (.int 18)))))))) aNil)))))
def b__law_pool : SM := (mSq t__law_pool_1
  (mSq t__law_pool_2
  t__law_pool_3))
def m__law_pool : FM := fnM 3 [false, false] b__law_pool
def t__law_draw_1 : SM := (mIfS (tAn (tOf (mBin (liftB cEq) (oEx (mBin gIx (oNm 0) (oEx (mC (.int 2))))) (oEx (mC (.int 1))))) (tOf (mBin (liftB cGt) (oEx (mBin gIx (oNm 0) (oEx (mC (.int 0))))) (oEx (mC (.int 0)))))) (mSq (mSet 2 (mBin gMod (oEx (mUn gInt (oEx (mBin gIx (oNm 0) (oEx (mC (.int 0))))))) (oNm 1)))
  (mSq (mPut 0 (oEx (mC (.int 0))) (mBin gDiv (oEx (mBin gIx (oNm 0) (oEx (mC (.int 0))))) (oNm 1)))
  (mRt (mMv 2)))) mNx)
def t__law_draw_2 : SM := (mPut 0 (oEx (mC (.int 1))) (mFz (mBin gAdd (oEx (mBin gIx (oNm 0) (oEx (mC (.int 1))))) (oEx (mC (.int 1))))))
def t__law_draw_3 : SM := (mSet 3 (mBin gMod (oEx (mUn gInt (oEx (mFz (mBin gAdd (oEx (mFz (mBin gAdd (oEx (mFz (mBin gMul (oEx (mBin gMod (oEx (mUn gInt (oEx (mBin gIx (oNm 0) (oEx (mC (.int 0))))))) (oEx (mC (.int 999999937))))) (oEx (mC (.int 48271)))))) (oEx (mFz (mBin gMul (oEx (mBin gIx (oNm 0) (oEx (mC (.int 1))))) (oEx (mC (.int 69621))))))))) (oEx (mC (.int 9973)))))))) (oEx (mC (.int 2147483647)))))
def t__law_draw_4 : SM := (mSet 3 (mBin gMod (oEx (mUn gInt (oEx (mFz (mBin gAdd (oEx (mFz (mBin gMul (oNm 3) (oNm 3)))) (oEx (mFz (mBin gMul (oEx (mBin gIx (oNm 0) (oEx (mC (.int 1))))) (oEx (mC (.int 16807))))))))))) (oEx (mC (.int 2147483629)))))
def t__law_draw_5 : SM := (mSet 3 (mBin gMod (oEx (mUn gInt (oEx (mFz (mBin gAdd (oEx (mFz (mBin gMul (oNm 3) (oNm 3)))) (oEx (mC (.int 40014)))))))) (oEx (mC (.int 2147483563)))))
def t__law_draw_6 : SM := (mRt (mBin gMod (oEx (mUn gInt (oEx (mBin gDiv (oNm 3) (oEx (mC (.int 11))))))) (oNm 1)))
def b__law_draw : SM := (mSq t__law_draw_1
  (mSq t__law_draw_2
  (mSq t__law_draw_3
  (mSq t__law_draw_4
  (mSq t__law_draw_5
  t__law_draw_6)))))
def m__law_draw : FM := fnM 4 [true, false] b__law_draw
def b__law_pick : SM := (mRt (mBin gIx (oNm 1) (oEx (mFz (mCall [true, false] (m__law_draw) (aRef 0 (aDat (mUn gLen (oNm 1)) aNil)))))))
def m__law_pick : FM := fnM 2 [true, false] b__law_pick
def m__law_system_1 : SM := (mSq (mSet 5 (mBin gSub (oEx (mBin gIx (oNm 2) (oNm 4))) (oEx (mFz (mCall [true, false] (m__law_draw) (aRef 0 (aDat (mC (.int 3)) aNil)))))))
  (mEx (mApp 3 (mTup (aDat (mNm 5) (aDat (mFz (mBin gAdd (oNm 5) (oEx (mFz (mCall [true, false] (m__law_draw) (aRef 0 (aDat (mC (.int 4)) aNil))))))) aNil))))))
def m__law_system_2 : SM := (mSq (mSet 10 (mCall [true, false] (m__law_draw) (aRef 0 (aDat (mFz (mBin gAdd (oNm 1) (oEx (mC (.int 1))))) aNil))))
  (mSq (mSet 11 (mCall [true, false] (m__law_draw) (aRef 0 (aDat (mFz (mBin gAdd (oNm 1) (oEx (mC (.int 1))))) aNil))))
  (mSq (mSet 12 (mBin gSub (oEx (mFz (mBin gAdd (oEx (mBin gSub (oEx (mBin gIx (oNm 2) (oNm 10))) (oEx (mBin gIx (oNm 2) (oNm 11))))) (oEx (mFz (mCall [true, false] (m__law_draw) (aRef 0 (aDat (mC (.int 9)) aNil)))))))) (oEx (mC (.int 4)))))
  (mSq (mIfS (tTr (oNm 8)) (mSet 12 (mBin gAdd (oEx (mBin gSub (oEx (mBin gIx (oNm 6) (oNm 10))) (oEx (mBin gIx (oNm 6) (oNm 11))))) (oEx (mFz (mCall [true, false] (m__law_draw) (aRef 0 (aDat (mC (.int 3)) aNil))))))) mNx)
  (mEx (mApp 9 (mTup (aDat (mNm 10) (aDat (mNm 11) (aDat (mNm 12) aNil))))))))))
def t__law_system_1 : SM := (mSet 1 (mCall [true, false] (m__law_pick) (aRef 0 (aDat (mFz (mLst (aDat (mC (.int 2)) (aDat (mC (.int 3)) (aDat (mC (.int 1)) (aDat (mC (.int 2)) (aDat (mC (.int 3)) (aDat (mC (.int 0)) (aDat (mC (.int 2)) (aDat (mC (.int 3)) aNil)))))))))) aNil))))
def t__law_system_2 : SM := (mSet 2 (mBin gAdd (oEx (mFz (mLc [4] (wR1 (mNm 1)) (gNm 4) tYs (mCall [true, false] (m__law_pick) (aRef 0 (aDat (mFz (mLst (aDat (mC (.int 0)) (aDat (mC (.int 0)) (aDat (mUn gNeg (oEx (mC (.int 7)))) (aDat (mC (.int 999990)) (aDat (mC (.int 3)) (aDat (mUn gNeg (oEx (mC (.int 999990)))) aNil)))))))) aNil)))))) (oEx (mFz (mLst (aDat (mC (.int 0)) aNil))))))
def t__law_system_3 : SM := (mSet 3 (mLst aNil))
def t__law_system_4 : SM := (mFor (wR1 (mNm 1)) (gNm 4) m__law_system_1)
def t__law_system_5 : SM := (mSet 6 (mBin gAdd (oEx (mFz (mLcB 3 [13] (gNm 13) tYs (mBin gAdd (oEx (mBin gIx (oNm 13) (oEx (mC (.int 0))))) (oEx (mFz (mCall [true, false] (m__law_draw) (aRef 0 (aDat (mFz (mBin gAdd (oEx (mBin gSub (oEx (mBin gIx (oNm 13) (oEx (mC (.int 1))))) (oEx (mBin gIx (oNm 13) (oEx (mC (.int 0))))))) (oEx (mC (.int 1))))) aNil))))))))) (oEx (mFz (mLst (aDat (mC (.int 0)) aNil))))))
def t__law_system_6 : SM := (mIfS (tAn (tOf (mBin (liftB cGt) (oNm 1) (oEx (mC (.int 0))))) (tOf (mBin (liftB cEq) (oEx (mFz (mCall [true, false] (m__law_draw) (aRef 0 (aDat (mC (.int 8)) aNil))))) (oEx (mC (.int 0)))))) (mSq (mSet 7 (mCall [true, false] (m__law_draw) (aRef 0 (aDat (mNm 1) aNil))))
  (mPut 3 (oNm 7) (mTup (aDat (mBin gIx (oEx (mBin gIx (oNm 3) (oNm 7))) (oEx (mC (.int 0)))) (aDat (mBin gSub (oEx (mBin gSub (oEx (mBin gIx (oEx (mBin gIx (oNm 3) (oNm 7))) (oEx (mC (.int 0))))) (oEx (mC (.int 1))))) (oEx (mFz (mCall [true, false] (m__law_draw) (aRef 0 (aDat (mC (.int 4)) aNil)))))) aNil))))) mNx)
def t__law_system_7 : SM := (mSet 8 (mBin (liftB cEq) (oEx (mFz (mCall [true, false] (m__law_draw) (aRef 0 (aDat (mC (.int 2)) aNil))))) (oEx (mC (.int 0)))))
def t__law_system_8 : SM := (mSet 9 (mLst aNil))
def t__law_system_9 : SM := (mFor (wR1 (mFz (mCall [true, false] (m__law_pick) (aRef 0 (aDat (mFz (mLst (aDat (mC (.int 3)) (aDat (mC (.int 5)) (aDat (mC (.int 2)) (aDat (mC (.int 8)) (aDat (mC (.int 4)) (aDat (mC (.int 1)) (aDat (mC (.int 6)) (aDat (mC (.int 0)) aNil)))))))))) aNil))))) (gNm 4) m__law_system_2)
def t__law_system_10 : SM := (mRt (mLst (aDat (mNm 3) (aDat (mNm 9) aNil))))
def b__law_system : SM := (mSq t__law_system_1
  (mSq t__law_system_2
  (mSq t__law_system_3
  (mSq t__law_system_4
  (mSq t__law_system_5
  (mSq t__law_system_6
  (mSq t__law_system_7
  (mSq t__law_system_8
  (mSq t__law_system_9
  t__law_system_10)))))))))
def m__law_system : FM := fnM 14 [true] b__law_system
def m_range_triples_1 : SM := (mEx (mExt 2 (oEx (mFz (mLst (aDat (mTup (aDat (mNm 3) (aDat (mNm 1) (aDat (mNm 5) aNil)))) (aDat (mTup (aDat (mNm 1) (aDat (mNm 3) (aDat (mUn gNeg (oNm 4)) aNil)))) aNil)))))))
def t_range_triples_1 : SM := (mSet 1 (mUn gLen (oNm 0)))
def t_range_triples_2 : SM := (mSet 2 (mLst aNil))
def t_range_triples_3 : SM := (mFor (wEn (mNm 0)) (gTp (gCo (gNm 3) (gCo (gTp (gCo (gNm 4) (gCo (gNm 5) gNi))) gNi))) m_range_triples_1)
def t_range_triples_4 : SM := (mRt (mMv 2))
def b_range_triples : SM := (mSq t_range_triples_1
  (mSq t_range_triples_2
  (mSq t_range_triples_3
  t_range_triples_4)))
def m_range_triples : FM := fnM 6 [false] b_range_triples
def m_shorten_1 : SM := (mIfS (tOf (mBin (liftB cLt) (oEx (mFz (mBin gAdd (oEx (mBin gIx (oNm 1) (oNm 5))) (oNm 7)))) (oEx (mBin gIx (oNm 1) (oNm 6))))) (mSq (mPut 1 (oNm 6) (mFz (mBin gAdd (oEx (mBin gIx (oNm 1) (oNm 5))) (oNm 7))))
  (mSq (mPut 2 (oNm 6) (mNm 4))
  (mSet 3 (mNm 6)))) mNx)
def t_shorten_1 : SM := (mSet 3 (mUn gNeg (oEx (mC (.int 1)))))
def t_shorten_2 : SM := (mFor (wEn (mNm 0)) (gTp (gCo (gNm 4) (gCo (gTp (gCo (gNm 5) (gCo (gNm 6) (gCo (gNm 7) gNi)))) gNi))) m_shorten_1)
def t_shorten_3 : SM := (mRt (mMv 3))
def b_shorten : SM := (mSq t_shorten_1
  (mSq t_shorten_2
  t_shorten_3))
def m_shorten : FM := fnM 8 [false, true, true] b_shorten
def m_closed_walk_1 : SM := (mSq (mPut 3 (oNm 2) (mC (.bl true)))
  (mSet 2 (mBin gIx (oEx (mBin gIx (oNm 0) (oEx (mBin gIx (oNm 1) (oNm 2))))) (oEx (mC (.int 0))))))
def m_closed_walk_2 : SM := (mEx (mApp 4 (mBin gIx (oNm 1) (oEx (mBin gIx (oEx (mBin gIx (oNm 0) (oEx (mBin gIx (oNm 4) (oEx (mUn gNeg (oEx (mC (.int 1))))))))) (oEx (mC (.int 0))))))))
def t_closed_walk_1 : SM := (mSet 3 mDn)
def t_closed_walk_2 : SM := (mWh (tOf (mBin (liftB cNi) (oNm 2) (oNm 3))) m_closed_walk_1)
def t_closed_walk_3 : SM := (mSet 4 (mLst (aDat (mBin gIx (oNm 1) (oNm 2)) aNil)))
def t_closed_walk_4 : SM := (mWh (tOf (mBin (liftB cNe) (oEx (mBin gIx (oEx (mBin gIx (oNm 0) (oEx (mBin gIx (oNm 4) (oEx (mUn gNeg (oEx (mC (.int 1))))))))) (oEx (mC (.int 0))))) (oNm 2))) m_closed_walk_2)
def t_closed_walk_5 : SM := (mRt (mUn gTuple (oEx (mFz (mUn gRev (oNm 4))))))
def b_closed_walk : SM := (mSq t_closed_walk_1
  (mSq t_closed_walk_2
  (mSq t_closed_walk_3
  (mSq t_closed_walk_4
  t_closed_walk_5))))
def m_closed_walk : FM := fnM 5 [false, false, false] b_closed_walk
def m_solve_all_1 : SM := (mSq (mSet 6 (mCall [false, true, true] (m_shorten) (aDat (mNm 3) (aRef 4 (aRef 5 aNil)))))
  (mIfS (tOf (mBin (liftB cLt) (oNm 6) (oEx (mC (.int 0))))) (mRt (mTup (aDat (mC (.str "point")) (aDat (mUn gTuple (oEx (mFz (mLc [10] (wR1 (mNm 2)) (gNm 10) tYs (mUn gNeg (oEx (mBin gIx (oNm 4) (oNm 10)))))))) aNil)))) mNx))
def t_solve_all_1 : SM := (mSet 2 (mUn gLen (oNm 0)))
def t_solve_all_2 : SM := (mSet 3 (mBin gAdd (oEx (mFz (mCall [false] (m_range_triples) (aDat (mNm 0) aNil)))) (oEx (mFz (mUn gList (oNm 1))))))
def t_solve_all_3 : SM := (mSet 4 (mBin gAdd (oEx (mFz (mLc [8, 9] (wSq (mNm 0)) (gTp (gCo (gNm 8) (gCo (gNm 9) gNi))) tYs (mUn gNeg (oNm 8))))) (oEx (mFz (mLst (aDat (mC (.int 0)) aNil))))))
def t_solve_all_4 : SM := (mSet 5 (mBin gAdd (oEx (mFz (mLc [10] (wR1 (mNm 2)) (gNm 10) tYs (mBin gAdd (oEx (mFz (mBin gMul (oEx (mC (.int 2))) (oNm 10)))) (oEx (mC (.int 1))))))) (oEx (mFz (mLst (aDat (mUn gNeg (oEx (mC (.int 1)))) aNil))))))
def t_solve_all_5 : SM := (mSet 6 (mNm 2))
def t_solve_all_6 : SM := (mFor (wR1 (mFz (mBin gAdd (oNm 2) (oEx (mC (.int 1)))))) (gNm 7) m_solve_all_1)
def t_solve_all_7 : SM := (mRt (mTup (aDat (mC (.str "cycle")) (aDat (mFz (mCall [false, false, false] (m_closed_walk) (aDat (mNm 3) (aDat (mNm 5) (aDat (mNm 6) aNil))))) aNil))))
def b_solve_all : SM := (mSq t_solve_all_1
  (mSq t_solve_all_2
  (mSq t_solve_all_3
  (mSq t_solve_all_4
  (mSq t_solve_all_5
  (mSq t_solve_all_6
  t_solve_all_7))))))
def m_solve_all : FM := fnM 11 [false, false] b_solve_all
def b_solve : SM := (mRt (mCall [false, false] (m_solve_all) (aDat (mNm 0) (aDat (mNm 1) aNil))))
def m_solve : FM := fnM 2 [false, false] b_solve
def m__law_same_1 (rec : FM) : SM := (mIfS (tNo (tTr (oEx (mFz (mCall [false, false] (rec) (aDat (mBin gIx (oNm 0) (oNm 2)) (aDat (mBin gIx (oNm 1) (oNm 2)) aNil))))))) (mRt (mC (.bl false))) mNx)
def t__law_same_1 (rec : FM) : SM := (mIfS (tOf (mBin (liftB cIsN) (oNm 1) (oEx (mC .non)))) (mRt (mBin (liftB cIsN) (oNm 0) (oEx (mC .non)))) mNx)
def t__law_same_2 (rec : FM) : SM := (mIfS (tTr (oEx (mUn (gIsT .tuple) (oNm 1)))) (mSq (mIfS (tOo (tNo (tTr (oEx (mUn (gIsT .tuple) (oNm 0))))) (tOf (mBin (liftB cNe) (oEx (mUn gLen (oNm 0))) (oEx (mUn gLen (oNm 1)))))) (mRt (mC (.bl false))) mNx)
  (mSq (mFor (wR1 (mUn gLen (oNm 1))) (gNm 2) (m__law_same_1 rec))
  (mRt (mC (.bl true))))) mNx)
def t__law_same_3 (rec : FM) : SM := (mIfS (tTr (oEx (mUn (gIsT .bool) (oNm 1)))) (mRt (mAn (mUn (gIsT .bool) (oNm 0)) (mBin (liftB cEq) (oNm 0) (oNm 1)))) mNx)
def t__law_same_4 (rec : FM) : SM := (mIfS (tTr (oEx (mUn (gIsT .int) (oNm 1)))) (mRt (mAn (mUn (gIsT .int) (oNm 0)) (mAn (mNo (mUn (gIsT .bool) (oNm 0))) (mBin (liftB cEq) (oNm 0) (oNm 1))))) mNx)
def t__law_same_5 (rec : FM) : SM := (mRt (mAn (mUn (gIsT .str) (oNm 0)) (mBin (liftB cEq) (oNm 0) (oNm 1))))
def b__law_same (rec : FM) : SM := (mSq (t__law_same_1 rec)
  (mSq (t__law_same_2 rec)
  (mSq (t__law_same_3 rec)
  (mSq (t__law_same_4 rec)
  (t__law_same_5 rec)))))
def m__law_same : Nat → FM
  | 0 => fun _ => none
  | k + 1 => fnM 3 [false, false] (b__law_same (m__law_same k))
def b__law_whole : SM := (mRt (mAn (mUn (gIsT .int) (oNm 0)) (mNo (mUn (gIsT .bool) (oNm 0)))))
def m__law_whole : FM := fnM 1 [false] b__law_whole
def m__law_walk_ok_1 : SM := (mSet 4 (mBin gAdd (oNm 4) (oEx (mFz (mLst (aDat (mTup (aDat (mNm 5) (aDat (mNm 3) (aDat (mBin gIx (oEx (mBin gIx (oNm 0) (oNm 5))) (oEx (mC (.int 1)))) aNil)))) (aDat (mTup (aDat (mNm 3) (aDat (mNm 5) (aDat (mUn gNeg (oEx (mBin gIx (oEx (mBin gIx (oNm 0) (oNm 5))) (oEx (mC (.int 0)))))) aNil)))) aNil)))))))
def m__law_walk_ok_2 : SM := (mIfS (tOo (tNo (tTr (oEx (mFz (mCall [false] (m__law_whole) (aDat (mNm 6) aNil)))))) (tNo (tOf (mChain cLe cLt (oEx (mC (.int 0))) (oNm 6) (oEx (mUn gLen (oNm 4))))))) (mRt (mC (.bl false))) mNx)
def m__law_walk_ok_3 : SM := (mSq (mSet 8 (mBin gIx (oNm 4) (oEx (mBin gIx (oNm 2) (oNm 6)))))
  (mSq (mSet 9 (mBin gIx (oNm 4) (oEx (mBin gIx (oNm 2) (oEx (mBin gMod (oEx (mUn gInt (oEx (mFz (mBin gAdd (oNm 6) (oEx (mC (.int 1)))))))) (oEx (mUn gLen (oNm 2)))))))))
  (mSq (mSet 7 (mBin gAdd (oNm 7) (oEx (mBin gIx (oNm 8) (oEx (mC (.int 2)))))))
  (mIfS (tOf (mBin (liftB cNe) (oEx (mBin gIx (oNm 8) (oEx (mC (.int 1))))) (oEx (mBin gIx (oNm 9) (oEx (mC (.int 0))))))) (mRt (mC (.bl false))) mNx))))
def t__law_walk_ok_1 : SM := (mSet 3 (mUn gLen (oNm 0)))
def t__law_walk_ok_2 : SM := (mSet 4 (mLst aNil))
def t__law_walk_ok_3 : SM := (mFor (wR1 (mNm 3)) (gNm 5) m__law_walk_ok_1)
def t__law_walk_ok_4 : SM := (mSet 4 (mBin gAdd (oNm 4) (oEx (mFz (mUn gList (oNm 1))))))
def t__law_walk_ok_5 : SM := (mIfS (tOo (tNo (tTr (oEx (mUn (gIsT .tuple) (oNm 2))))) (tOf (mBin (liftB cEq) (oEx (mUn gLen (oNm 2))) (oEx (mC (.int 0)))))) (mRt (mC (.bl false))) mNx)
def t__law_walk_ok_6 : SM := (mFor (wSq (mNm 2)) (gNm 6) m__law_walk_ok_2)
def t__law_walk_ok_7 : SM := (mSet 7 (mC (.int 0)))
def t__law_walk_ok_8 : SM := (mFor (wR1 (mUn gLen (oNm 2))) (gNm 6) m__law_walk_ok_3)
def t__law_walk_ok_9 : SM := (mRt (mBin (liftB cLt) (oNm 7) (oEx (mC (.int 0)))))
def b__law_walk_ok : SM := (mSq t__law_walk_ok_1
  (mSq t__law_walk_ok_2
  (mSq t__law_walk_ok_3
  (mSq t__law_walk_ok_4
  (mSq t__law_walk_ok_5
  (mSq t__law_walk_ok_6
  (mSq t__law_walk_ok_7
  (mSq t__law_walk_ok_8
  t__law_walk_ok_9))))))))
def m__law_walk_ok : FM := fnM 10 [false, false, false] b__law_walk_ok
def m__law_points_1 : SM := (mSet 3 (mBin gAdd (oNm 3) (oEx (mFz (mLc [5] (wR2 (mBin gIx (oNm 2) (oEx (mC (.int 0)))) (mFz (mBin gAdd (oEx (mBin gIx (oNm 2) (oEx (mC (.int 1))))) (oEx (mC (.int 1)))))) (gNm 5) tYs (mBin gAdd (oNm 4) (oEx (mTup (aDat (mNm 5) aNil)))))))))
def m__law_points_2 : SM := (mSq (mSet 3 (mLst aNil))
  (mSq (mFor (wSq (mNm 1)) (gNm 4) m__law_points_1)
  (mSet 1 (mNm 3))))
def t__law_points_1 : SM := (mSet 1 (mLst (aDat (mTup aNil) aNil)))
def t__law_points_2 : SM := (mFor (wSq (mNm 0)) (gNm 2) m__law_points_2)
def t__law_points_3 : SM := (mRt (mMv 1))
def b__law_points : SM := (mSq t__law_points_1
  (mSq t__law_points_2
  t__law_points_3))
def m__law_points : FM := fnM 6 [false] b__law_points
def t__law_solves_1 : SM := (mSet 2 (mBin gAdd (oNm 0) (oEx (mTup (aDat (mC (.int 0)) aNil)))))
def t__law_solves_2 : SM := (mRt (mBin (liftB cEq) (oEx (mFz (mLc [3] (wSq (mNm 1)) (gNm 3) (tOf (mBin (liftB cGt) (oEx (mBin gSub (oEx (mBin gIx (oNm 2) (oEx (mBin gIx (oNm 3) (oEx (mC (.int 0))))))) (oEx (mBin gIx (oNm 2) (oEx (mBin gIx (oNm 3) (oEx (mC (.int 1))))))))) (oEx (mBin gIx (oNm 3) (oEx (mC (.int 2))))))) (mC (.int 1))))) (oEx (mFz (mLst aNil)))))
def b__law_solves : SM := (mSq t__law_solves_1
  t__law_solves_2)
def m__law_solves : FM := fnM 4 [false, false] b__law_solves
def t__law_least_point_1 : SM := (mSet 2 (mLc [3] (wSq (mFz (mCall [false] (m__law_points) (aDat (mNm 0) aNil)))) (gNm 3) (tTr (oEx (mFz (mCall [false, false] (m__law_solves) (aDat (mNm 3) (aDat (mNm 1) aNil)))))) (mNm 3)))
def t__law_least_point_2 : SM := (mIfS (tOf (mBin (liftB cEq) (oNm 2) (oEx (mFz (mLst aNil))))) (mRt (mC .non)) mNx)
def t__law_least_point_3 : SM := (mRt (mUn gTuple (oEx (mFz (mLc [4] (wR1 (mUn gLen (oNm 0))) (gNm 4) tYs (mUn gMin (oEx (mFz (mLc [3] (wSq (mNm 2)) (gNm 3) tYs (mBin gIx (oNm 3) (oNm 4)))))))))))
def b__law_least_point : SM := (mSq t__law_least_point_1
  (mSq t__law_least_point_2
  t__law_least_point_3))
def m__law_least_point : FM := fnM 5 [false, false] b__law_least_point
def t__law_answered_1 : SM := (mSet 3 (mCall [false, false] (m__law_least_point) (aDat (mNm 0) (aDat (mNm 1) aNil))))
def t__law_answered_2 : SM := (mSet 4 (mLst (aDat (mFz (mUn gList (oNm 0))) (aDat (mFz (mUn gList (oNm 1))) aNil))))
def t__law_answered_3 : SM := (mIfS (tTr (oNm 2)) (mSet 5 (mCall [false, false] (m_solve) (aDat (mBin gIx (oNm 4) (oEx (mC (.int 0)))) (aDat (mBin gIx (oNm 4) (oEx (mC (.int 1)))) aNil)))) (mSet 5 (mCall [false, false] (m_solve) (aDat (mUn gTuple (oNm 0)) (aDat (mUn gTuple (oNm 1)) aNil)))))
def t__law_answered_4 : SM := (mIfS (tOf (mBin (liftB cNe) (oNm 4) (oEx (mFz (mLst (aDat (mFz (mUn gList (oNm 0))) (aDat (mFz (mUn gList (oNm 1))) aNil))))))) (mRt (mC (.bl false))) mNx)
def t__law_answered_5 : SM := (mIfS (tOf (mBin (liftB cNoN) (oNm 3) (oEx (mC .non)))) (mRt (mCall [false, false] (m__law_same 8) (aDat (mNm 5) (aDat (mTup (aDat (mC (.str "point")) (aDat (mNm 3) aNil))) aNil)))) mNx)
def t__law_answered_6 : SM := (mIfS (tOo (tNo (tTr (oEx (mUn (gIsT .tuple) (oNm 5))))) (tOo (tOf (mBin (liftB cNe) (oEx (mUn gLen (oNm 5))) (oEx (mC (.int 2))))) (tOo (tNo (tTr (oEx (mUn (gIsT .str) (oEx (mBin gIx (oNm 5) (oEx (mC (.int 0))))))))) (tOf (mBin (liftB cNe) (oEx (mBin gIx (oNm 5) (oEx (mC (.int 0))))) (oEx (mC (.str "cycle")))))))) (mRt (mC (.bl false))) mNx)
def t__law_answered_7 : SM := (mRt (mCall [false, false, false] (m__law_walk_ok) (aDat (mNm 0) (aDat (mNm 1) (aDat (mBin gIx (oNm 5) (oEx (mC (.int 1)))) aNil)))))
def b__law_answered : SM := (mSq t__law_answered_1
  (mSq t__law_answered_2
  (mSq t__law_answered_3
  (mSq t__law_answered_4
  (mSq t__law_answered_5
  (mSq t__law_answered_6
  t__law_answered_7))))))
def m__law_answered : FM := fnM 6 [false, false, false] b__law_answered
def t_law_1 : SM := (mSet 1 (mCall [false, false] (m__law_pool) (aDat (mNm 0) (aDat (mC (.int 0)) aNil))))
def t_law_2 : SM := (mSet 2 (mCall [true] (m__law_system) (aRef 1 aNil)))
def t_law_3 : SM := (mSet 3 (mBin (liftB cEq) (oEx (mFz (mCall [true, false] (m__law_draw) (aRef 1 (aDat (mC (.int 2)) aNil))))) (oEx (mC (.int 0)))))
def t_law_4 : SM := (mSet 4 (mCall [true] (m__law_system) (aDat (mCall [false, false] (m__law_pool) (aDat (mNm 0) (aDat (mC (.int 1)) aNil))) aNil)))
def t_law_5 : SM := (mIfS (tNo (tTr (oEx (mFz (mCall [false, false, false] (m__law_answered) (aDat (mBin gIx (oNm 2) (oEx (mC (.int 0)))) (aDat (mBin gIx (oNm 2) (oEx (mC (.int 1)))) (aDat (mNm 3) aNil)))))))) (mRt (mC (.bl false))) mNx)
def t_law_6 : SM := (mIfS (tNo (tTr (oEx (mFz (mCall [false, false, false] (m__law_answered) (aDat (mBin gIx (oNm 4) (oEx (mC (.int 0)))) (aDat (mBin gIx (oNm 4) (oEx (mC (.int 1)))) (aDat (mNo (mNm 3)) aNil)))))))) (mRt (mC (.bl false))) mNx)
def t_law_7 : SM := (mRt (mCall [false, false, false] (m__law_answered) (aDat (mBin gIx (oNm 2) (oEx (mC (.int 0)))) (aDat (mBin gIx (oNm 2) (oEx (mC (.int 1)))) (aDat (mNo (mNm 3)) aNil)))))
def b_law : SM := (mSq t_law_1
  (mSq t_law_2
  (mSq t_law_3
  (mSq t_law_4
  (mSq t_law_5
  (mSq t_law_6
  t_law_7))))))
def m_law : FM := fnM 5 [false] b_law
end Lk17

/-! k17: each def does what is said of it. -/
namespace Lk17
open PySem L2 MP

def top (i : Nat) : Stmt := PySem.Challenge.pw_testmill_k17_solve_small_systems.main.body.getD i (.Pass ⟨0, 0, 0, 0⟩)
abbrev FnP (K : PySem.W.Frag) (x : Str) (st : Stmt) (f : Addr) (fd : FuncData) : Prop := FunD K x x (L2.defArgs st) (L2.defBody st) (L2.defScope st) [] [] f fd
section
variable {P : Program} {w : World} {K : PySem.W.Frag} {mg : Str → Option Value} {base : Heap}
abbrev s__law_pool : Stmt := top 7
theorem sc__law_pool : FnScope ["script", "k", "cell"] ["script", "k"] (L2.defScope s__law_pool) := ⟨rfl, rfl, rfl, by decide +kernel, rfl, by decide +kernel, by decide +kernel⟩
theorem ok__law_pool {f : Addr} {fd : FuncData} (F : FnP K "_law_pool" s__law_pool f fd) (g : mg "_law_pool" = some (.ref f)) (g_abs : mg "abs" = none) (g_int : mg "int" = none) (g_len : mg "len" = none) : CalD P w K mg base 1 "_law_pool" ["script", "k"] [false, false] m__law_pool :=
  CalD.of (pn := []) F g sc__law_pool (fun _ _ _ _ _ _ us hl => match us, hl with | [_, _], _ => rfl) fun cdv A outer s H E hr => by
    have hu := hr.units
    have hu1 := hu_of hr
    have hNd := sc__law_pool.nd
    exact (b_cons (s_set (i := 2) hNd rfl (by first | exact Or.inl rfl | exact Or.inr rfl) (j_up j_int))
  (b_cons (s_if (j_tlt (j_on (pv 1)) (j_ox (j_len rfl g_len (j_on (pv 0))))) (b_one (s_set (i := 2) hNd rfl (by first | exact Or.inl rfl | exact Or.inr rfl) (j_up (j_abs rfl g_abs (j_ox (j_ix hu1 (j_on (pv 0)) (j_on (pv 1)))))))) b_nil)
  (b_one (s_ret (j_lst (j_adat (j_up (j_nm (pv 2))) (j_adat (j_up (j_fz (j_add (j_ox j_int) (j_on (pv 1))))) (j_adat (j_up (j_intc rfl g_int (j_ox (j_ge (j_on (pv 2)) (j_ox (j_pow (j_ox j_int) (j_ox j_int))))))) j_anil))))))))
abbrev s__law_draw : Stmt := top 8
theorem sc__law_draw : FnScope ["pool", "many", "told", "mixed"] ["pool", "many"] (L2.defScope s__law_draw) := ⟨rfl, rfl, rfl, by decide +kernel, rfl, by decide +kernel, by decide +kernel⟩
theorem ok__law_draw {f : Addr} {fd : FuncData} (F : FnP K "_law_draw" s__law_draw f fd) (g : mg "_law_draw" = some (.ref f)) (g_int : mg "int" = none) : CalD P w K mg base 1 "_law_draw" ["pool", "many"] [true, false] m__law_draw :=
  CalD.of (pn := [0]) F g sc__law_draw (fun _ _ _ _ _ _ us hl => match us, hl with | [_, _], _ => rfl) fun cdv A outer s H E hr => by
    have hu := hr.units
    have hu1 := hu_of hr
    have hNd := sc__law_draw.nd
    exact (b_cons (s_if (WE.be (j_and (j_teq hu (j_ox (j_ix hu1 (j_on (pv 0)) (j_ox j_int))) (j_ox j_int)) (j_and1 (j_tgt (j_ox (j_ix hu1 (j_on (pv 0)) (j_ox j_int))) (j_ox j_int))))) (b_cons (s_set (i := 2) hNd rfl (by first | exact Or.inl rfl | exact Or.inr rfl) (j_up (j_mod (j_ox (j_intc rfl g_int (j_ox (j_ix hu1 (j_on (pv 0)) (j_ox j_int))))) (j_on (pv 1)))))
  (b_cons (s_put hu1 (pv 0) (j_ox j_int) (j_div (j_ox (j_ix hu1 (j_on (pv 0)) (j_ox j_int))) (j_on (pv 1))))
  (b_one (s_ret (j_mv (pv 2)))))) b_nil)
  (b_cons (s_put hu1 (pv 0) (j_ox j_int) (j_fz (j_add (j_ox (j_ix hu1 (j_on (pv 0)) (j_ox j_int))) (j_ox j_int))))
  (b_cons (s_set (i := 3) hNd rfl (by first | exact Or.inl rfl | exact Or.inr rfl) (j_up (j_mod (j_ox (j_intc rfl g_int (j_ox (j_fz (j_add (j_ox (j_fz (j_add (j_ox (j_fz (j_mul (j_ox (j_mod (j_ox (j_intc rfl g_int (j_ox (j_ix hu1 (j_on (pv 0)) (j_ox j_int))))) (j_ox j_int))) (j_ox j_int)))) (j_ox (j_fz (j_mul (j_ox (j_ix hu1 (j_on (pv 0)) (j_ox j_int))) (j_ox j_int))))))) (j_ox j_int)))))) (j_ox j_int))))
  (b_cons (s_set (i := 3) hNd rfl (by first | exact Or.inl rfl | exact Or.inr rfl) (j_up (j_mod (j_ox (j_intc rfl g_int (j_ox (j_fz (j_add (j_ox (j_fz (j_mul (j_on (pv 3)) (j_on (pv 3))))) (j_ox (j_fz (j_mul (j_ox (j_ix hu1 (j_on (pv 0)) (j_ox j_int))) (j_ox j_int))))))))) (j_ox j_int))))
  (b_cons (s_set (i := 3) hNd rfl (by first | exact Or.inl rfl | exact Or.inr rfl) (j_up (j_mod (j_ox (j_intc rfl g_int (j_ox (j_fz (j_add (j_ox (j_fz (j_mul (j_on (pv 3)) (j_on (pv 3))))) (j_ox j_int)))))) (j_ox j_int))))
  (b_one (s_ret (j_up (j_mod (j_ox (j_intc rfl g_int (j_ox (j_div (j_on (pv 3)) (j_ox j_int))))) (j_on (pv 1)))))))))))
abbrev s__law_pick : Stmt := top 9
theorem sc__law_pick : FnScope ["pool", "things"] ["pool", "things"] (L2.defScope s__law_pick) := ⟨rfl, rfl, rfl, by decide +kernel, rfl, by decide +kernel, by decide +kernel⟩
theorem ok__law_pick {f : Addr} {fd : FuncData} (F : FnP K "_law_pick" s__law_pick f fd) (g : mg "_law_pick" = some (.ref f)) (C__law_draw : CalD P w K mg base 1 "_law_draw" ["pool", "many"] [true, false] m__law_draw) (g_len : mg "len" = none) : CalD P w K mg base 2 "_law_pick" ["pool", "things"] [true, false] m__law_pick :=
  CalD.of (pn := [0]) F g sc__law_pick (fun _ _ _ _ _ _ us hl => match us, hl with | [_, _], _ => rfl) fun cdv A outer s H E hr => by
    have hu := hr.units
    have hu1 := hu_of hr
    have hNd := sc__law_pick.nd
    exact (b_one (s_ret (j_up (j_ix hu1 (j_on (pv 1)) (j_ox (j_fz (j_cal C__law_draw hr (j_aref (pv 0) (j_adat (j_up (j_len rfl g_len (j_on (pv 1)))) j_anil)))))))))
abbrev s__law_system : Stmt := top 13
theorem sc__law_system : FnScope ["pool", "n", "mids", "ranges", "k", "low", "hidden", "at", "solved", "constraints", "a", "b", "c", "pair"] ["pool"] (L2.defScope s__law_system) := ⟨rfl, rfl, rfl, by decide +kernel, rfl, by decide +kernel, by decide +kernel⟩
theorem ok__law_system {f : Addr} {fd : FuncData} (F : FnP K "_law_system" s__law_system f fd) (g : mg "_law_system" = some (.ref f)) (C__law_draw : CalD P w K mg base 1 "_law_draw" ["pool", "many"] [true, false] m__law_draw) (C__law_pick : CalD P w K mg base 2 "_law_pick" ["pool", "things"] [true, false] m__law_pick) (g_range : mg "range" = none) : CalD P w K mg base 3 "_law_system" ["pool"] [true] m__law_system :=
  CalD.of (pn := [0]) F g sc__law_system (fun _ _ _ _ _ _ us hl => match us, hl with | [_], _ => rfl) fun cdv A outer s H E hr => by
    have hu := hr.units
    have hu1 := hu_of hr
    have hNd := sc__law_system.nd
    exact (b_cons (s_set (i := 1) hNd rfl (by first | exact Or.inl rfl | exact Or.inr rfl) (j_cal C__law_pick hr (j_aref (pv 0) (j_adat (j_up (j_fz (j_lst (j_adat (j_up j_int) (j_adat (j_up j_int) (j_adat (j_up j_int) (j_adat (j_up j_int) (j_adat (j_up j_int) (j_adat (j_up j_int) (j_adat (j_up j_int) (j_adat (j_up j_int) j_anil))))))))))) j_anil))))
  (b_cons (s_set (i := 2) hNd rfl (by first | exact Or.inl rfl | exact Or.inr rfl) (j_add (j_ox (j_fz (j_lc (own := [("k", 4)]) rfl hNd (w_r1 rfl g_range (j_nm (pv 1))) (by with_unfolding_all rfl) (fun _ _ _ _ _ => (c_nm (i := 4) hNd rfl (by first | exact Or.inl rfl | exact Or.inr rfl))) (fun _ _ _ _ _ => ts_nil) (fun _ _ _ _ _ => (j_cal C__law_pick hr (j_aref (pv 0) (j_adat (j_up (j_fz (j_lst (j_adat (j_up j_int) (j_adat (j_up j_int) (j_adat (j_up (j_neg (j_ox j_int))) (j_adat (j_up j_int) (j_adat (j_up j_int) (j_adat (j_up (j_neg (j_ox j_int))) j_anil))))))))) j_anil))))))) (j_ox (j_fz (j_lst (j_adat (j_up j_int) j_anil))))))
  (b_cons (s_set (i := 3) hNd rfl (by first | exact Or.inl rfl | exact Or.inr rfl) (j_lst j_anil))
  (b_cons (s_for PassesOwn.never rfl (w_r1 rfl g_range (j_nm (pv 1))) (g_nm (i := 4) hNd rfl (by first | exact Or.inl rfl | exact Or.inr rfl)) (b_cons (s_set (i := 5) hNd rfl (by first | exact Or.inl rfl | exact Or.inr rfl) (j_up (j_sub (j_ox (j_ix hu1 (j_on (pv 2)) (j_on (pv 4)))) (j_ox (j_fz (j_cal C__law_draw hr (j_aref (pv 0) (j_adat (j_up j_int) j_anil))))))))
  (b_one (s_expr (j_app (pv 3) (j_up (j_tup (j_adat (j_up (j_nm (pv 5))) (j_adat (j_up (j_fz (j_add (j_on (pv 5)) (j_ox (j_fz (j_cal C__law_draw hr (j_aref (pv 0) (j_adat (j_up j_int) j_anil)))))))) j_anil)))))))))
  (b_cons (s_set (i := 6) hNd rfl (by first | exact Or.inl rfl | exact Or.inr rfl) (j_add (j_ox (j_fz (j_lcB (own := [("pair", 13)]) rfl hNd (pv 3) (by with_unfolding_all rfl) (fun _ _ _ _ _ => (c_nm (i := 13) hNd rfl (by first | exact Or.inl rfl | exact Or.inr rfl))) (fun _ _ _ _ _ => ts_nil) (fun _ _ _ _ _ => (j_add (j_ox (j_ix hu1 (j_on (pv 13)) (j_ox j_int))) (j_ox (j_fz (j_cal C__law_draw hr (j_aref (pv 0) (j_adat (j_up (j_fz (j_add (j_ox (j_sub (j_ox (j_ix hu1 (j_on (pv 13)) (j_ox j_int))) (j_ox (j_ix hu1 (j_on (pv 13)) (j_ox j_int))))) (j_ox j_int)))) j_anil)))))))))) (j_ox (j_fz (j_lst (j_adat (j_up j_int) j_anil))))))
  (b_cons (s_if (WE.be (j_and (j_tgt (j_on (pv 1)) (j_ox j_int)) (j_and1 (j_teq hu (j_ox (j_fz (j_cal C__law_draw hr (j_aref (pv 0) (j_adat (j_up j_int) j_anil))))) (j_ox j_int))))) (b_cons (s_set (i := 7) hNd rfl (by first | exact Or.inl rfl | exact Or.inr rfl) (j_cal C__law_draw hr (j_aref (pv 0) (j_adat (j_up (j_nm (pv 1))) j_anil))))
  (b_one (s_put hu1 (pv 3) (j_on (pv 7)) (j_tup (j_adat (j_up (j_ix hu1 (j_ox (j_ix hu1 (j_on (pv 3)) (j_on (pv 7)))) (j_ox j_int))) (j_adat (j_up (j_sub (j_ox (j_sub (j_ox (j_ix hu1 (j_ox (j_ix hu1 (j_on (pv 3)) (j_on (pv 7)))) (j_ox j_int))) (j_ox j_int))) (j_ox (j_fz (j_cal C__law_draw hr (j_aref (pv 0) (j_adat (j_up j_int) j_anil))))))) j_anil)))))) b_nil)
  (b_cons (s_set (i := 8) hNd rfl (by first | exact Or.inl rfl | exact Or.inr rfl) (j_up (j_eq hu (j_ox (j_fz (j_cal C__law_draw hr (j_aref (pv 0) (j_adat (j_up j_int) j_anil))))) (j_ox j_int))))
  (b_cons (s_set (i := 9) hNd rfl (by first | exact Or.inl rfl | exact Or.inr rfl) (j_lst j_anil))
  (b_cons (s_for PassesOwn.never rfl (w_r1 rfl g_range (j_fz (j_cal C__law_pick hr (j_aref (pv 0) (j_adat (j_up (j_fz (j_lst (j_adat (j_up j_int) (j_adat (j_up j_int) (j_adat (j_up j_int) (j_adat (j_up j_int) (j_adat (j_up j_int) (j_adat (j_up j_int) (j_adat (j_up j_int) (j_adat (j_up j_int) j_anil))))))))))) j_anil))))) (g_nm (i := 4) hNd rfl (by first | exact Or.inl rfl | exact Or.inr rfl)) (b_cons (s_set (i := 10) hNd rfl (by first | exact Or.inl rfl | exact Or.inr rfl) (j_cal C__law_draw hr (j_aref (pv 0) (j_adat (j_up (j_fz (j_add (j_on (pv 1)) (j_ox j_int)))) j_anil))))
  (b_cons (s_set (i := 11) hNd rfl (by first | exact Or.inl rfl | exact Or.inr rfl) (j_cal C__law_draw hr (j_aref (pv 0) (j_adat (j_up (j_fz (j_add (j_on (pv 1)) (j_ox j_int)))) j_anil))))
  (b_cons (s_set (i := 12) hNd rfl (by first | exact Or.inl rfl | exact Or.inr rfl) (j_up (j_sub (j_ox (j_fz (j_add (j_ox (j_sub (j_ox (j_ix hu1 (j_on (pv 2)) (j_on (pv 10)))) (j_ox (j_ix hu1 (j_on (pv 2)) (j_on (pv 11)))))) (j_ox (j_fz (j_cal C__law_draw hr (j_aref (pv 0) (j_adat (j_up j_int) j_anil)))))))) (j_ox j_int))))
  (b_cons (s_if (j_tru (j_on (pv 8))) (b_one (s_set (i := 12) hNd rfl (by first | exact Or.inl rfl | exact Or.inr rfl) (j_add (j_ox (j_sub (j_ox (j_ix hu1 (j_on (pv 6)) (j_on (pv 10)))) (j_ox (j_ix hu1 (j_on (pv 6)) (j_on (pv 11)))))) (j_ox (j_fz (j_cal C__law_draw hr (j_aref (pv 0) (j_adat (j_up j_int) j_anil)))))))) b_nil)
  (b_one (s_expr (j_app (pv 9) (j_up (j_tup (j_adat (j_up (j_nm (pv 10))) (j_adat (j_up (j_nm (pv 11))) (j_adat (j_up (j_nm (pv 12))) j_anil)))))))))))))
  (b_one (s_ret (j_lst (j_adat (j_up (j_nm (pv 3))) (j_adat (j_up (j_nm (pv 9))) j_anil))))))))))))))
abbrev s_range_triples : Stmt := top 1
theorem sc_range_triples : FnScope ["ranges", "n", "listed", "i", "low", "high"] ["ranges"] (L2.defScope s_range_triples) := ⟨rfl, rfl, rfl, by decide +kernel, rfl, by decide +kernel, by decide +kernel⟩
theorem ok_range_triples {f : Addr} {fd : FuncData} (F : FnP K "range_triples" s_range_triples f fd) (g : mg "range_triples" = some (.ref f)) (g_enumerate : mg "enumerate" = none) (g_len : mg "len" = none) : CalD P w K mg base 1 "range_triples" ["ranges"] [false] m_range_triples :=
  CalD.of (pn := []) F g sc_range_triples (fun _ _ _ _ _ _ us hl => match us, hl with | [_], _ => rfl) fun cdv A outer s H E hr => by
    have hu := hr.units
    have hu1 := hu_of hr
    have hNd := sc_range_triples.nd
    exact (b_cons (s_set (i := 1) hNd rfl (by first | exact Or.inl rfl | exact Or.inr rfl) (j_up (j_len rfl g_len (j_on (pv 0)))))
  (b_cons (s_set (i := 2) hNd rfl (by first | exact Or.inl rfl | exact Or.inr rfl) (j_lst j_anil))
  (b_cons (s_for PassesOwn.never rfl (w_en rfl g_enumerate (j_nm (pv 0))) (g_tp rfl (g_co (g_nm (i := 3) hNd rfl (by first | exact Or.inl rfl | exact Or.inr rfl)) (g_co (g_tp rfl (g_co (g_nm (i := 4) hNd rfl (by first | exact Or.inl rfl | exact Or.inr rfl)) (g_co (g_nm (i := 5) hNd rfl (by first | exact Or.inl rfl | exact Or.inr rfl)) g_nil)) (many_co (many_co many_ni))) g_nil)) (many_co (many_co many_ni))) (b_one (s_expr (j_up (j_ext (pv 2) (j_ox (j_fz (j_lst (j_adat (j_up (j_tup (j_adat (j_up (j_nm (pv 3))) (j_adat (j_up (j_nm (pv 1))) (j_adat (j_up (j_nm (pv 5))) j_anil))))) (j_adat (j_up (j_tup (j_adat (j_up (j_nm (pv 1))) (j_adat (j_up (j_nm (pv 3))) (j_adat (j_up (j_neg (j_on (pv 4)))) j_anil))))) j_anil))))))))))
  (b_one (s_ret (j_mv (pv 2)))))))
abbrev s_shorten : Stmt := top 2
theorem sc_shorten : FnScope ["listed", "lengths", "last", "node", "place", "a", "b", "c"] ["listed", "lengths", "last"] (L2.defScope s_shorten) := ⟨rfl, rfl, rfl, by decide +kernel, rfl, by decide +kernel, by decide +kernel⟩
theorem ok_shorten {f : Addr} {fd : FuncData} (F : FnP K "shorten" s_shorten f fd) (g : mg "shorten" = some (.ref f)) (g_enumerate : mg "enumerate" = none) : CalD P w K mg base 1 "shorten" ["listed", "lengths", "last"] [false, true, true] m_shorten :=
  CalD.of (pn := [1, 2]) F g sc_shorten (fun _ _ _ _ _ _ us hl => match us, hl with | [_, _, _], _ => rfl) fun cdv A outer s H E hr => by
    have hu := hr.units
    have hu1 := hu_of hr
    have hNd := sc_shorten.nd
    exact (b_cons (s_set (i := 3) hNd rfl (by first | exact Or.inl rfl | exact Or.inr rfl) (j_up (j_neg (j_ox j_int))))
  (b_cons (s_for PassesOwn.never rfl (w_en rfl g_enumerate (j_nm (pv 0))) (g_tp rfl (g_co (g_nm (i := 4) hNd rfl (by first | exact Or.inl rfl | exact Or.inr rfl)) (g_co (g_tp rfl (g_co (g_nm (i := 5) hNd rfl (by first | exact Or.inl rfl | exact Or.inr rfl)) (g_co (g_nm (i := 6) hNd rfl (by first | exact Or.inl rfl | exact Or.inr rfl)) (g_co (g_nm (i := 7) hNd rfl (by first | exact Or.inl rfl | exact Or.inr rfl)) g_nil))) (many_co (many_co (many_co many_ni)))) g_nil)) (many_co (many_co many_ni))) (b_one (s_if (j_tlt (j_ox (j_fz (j_add (j_ox (j_ix hu1 (j_on (pv 1)) (j_on (pv 5)))) (j_on (pv 7))))) (j_ox (j_ix hu1 (j_on (pv 1)) (j_on (pv 6))))) (b_cons (s_put hu1 (pv 1) (j_on (pv 6)) (j_fz (j_add (j_ox (j_ix hu1 (j_on (pv 1)) (j_on (pv 5)))) (j_on (pv 7)))))
  (b_cons (s_put hu1 (pv 2) (j_on (pv 6)) (j_nm (pv 4)))
  (b_one (s_set (i := 3) hNd rfl (by first | exact Or.inl rfl | exact Or.inr rfl) (j_up (j_nm (pv 6))))))) b_nil)))
  (b_one (s_ret (j_mv (pv 3))))))
abbrev s_closed_walk : Stmt := top 3
theorem sc_closed_walk : FnScope ["listed", "last", "node", "seen", "places"] ["listed", "last", "node"] (L2.defScope s_closed_walk) := ⟨rfl, rfl, rfl, by decide +kernel, rfl, by decide +kernel, by decide +kernel⟩
theorem ok_closed_walk {f : Addr} {fd : FuncData} (F : FnP K "closed_walk" s_closed_walk f fd) (g : mg "closed_walk" = some (.ref f)) (g_tuple : mg "tuple" = none) : CalD P w K mg base 1 "closed_walk" ["listed", "last", "node"] [false, false, false] m_closed_walk :=
  CalD.of (pn := []) F g sc_closed_walk (fun _ _ _ _ _ _ us hl => match us, hl with | [_, _, _], _ => rfl) fun cdv A outer s H E hr => by
    have hu := hr.units
    have hu1 := hu_of hr
    have hNd := sc_closed_walk.nd
    exact (b_cons (s_set (i := 3) hNd rfl (by first | exact Or.inl rfl | exact Or.inr rfl) j_dn)
  (b_cons (s_while PassesOwn.never (j_tni hu1 (j_on (pv 2)) (j_on (pv 3))) (b_cons (s_put hu1 (pv 3) (j_on (pv 2)) j_bl)
  (b_one (s_set (i := 2) hNd rfl (by first | exact Or.inl rfl | exact Or.inr rfl) (j_up (j_ix hu1 (j_ox (j_ix hu1 (j_on (pv 0)) (j_ox (j_ix hu1 (j_on (pv 1)) (j_on (pv 2)))))) (j_ox j_int)))))))
  (b_cons (s_set (i := 4) hNd rfl (by first | exact Or.inl rfl | exact Or.inr rfl) (j_lst (j_adat (j_up (j_ix hu1 (j_on (pv 1)) (j_on (pv 2)))) j_anil)))
  (b_cons (s_while PassesOwn.never (j_tne hu (j_ox (j_ix hu1 (j_ox (j_ix hu1 (j_on (pv 0)) (j_ox (j_ix hu1 (j_on (pv 4)) (j_ox (j_neg (j_ox j_int))))))) (j_ox j_int))) (j_on (pv 2))) (b_one (s_expr (j_app (pv 4) (j_up (j_ix hu1 (j_on (pv 1)) (j_ox (j_ix hu1 (j_ox (j_ix hu1 (j_on (pv 0)) (j_ox (j_ix hu1 (j_on (pv 4)) (j_ox (j_neg (j_ox j_int))))))) (j_ox j_int)))))))))
  (b_one (s_ret (j_up (j_tuple rfl g_tuple (j_ox (j_fz (j_rev (j_on (pv 4)))))))))))))
abbrev s_solve_all : Stmt := top 4
theorem sc_solve_all : FnScope ["ranges", "constraints", "n", "listed", "lengths", "last", "node", "_", "low", "high", "i"] ["ranges", "constraints"] (L2.defScope s_solve_all) := ⟨rfl, rfl, rfl, by decide +kernel, rfl, by decide +kernel, by decide +kernel⟩
theorem ok_solve_all {f : Addr} {fd : FuncData} (F : FnP K "solve_all" s_solve_all f fd) (g : mg "solve_all" = some (.ref f)) (C_range_triples : CalD P w K mg base 1 "range_triples" ["ranges"] [false] m_range_triples) (C_shorten : CalD P w K mg base 1 "shorten" ["listed", "lengths", "last"] [false, true, true] m_shorten) (C_closed_walk : CalD P w K mg base 1 "closed_walk" ["listed", "last", "node"] [false, false, false] m_closed_walk) (g_len : mg "len" = none) (g_list : mg "list" = none) (g_range : mg "range" = none) (g_tuple : mg "tuple" = none) : CalD P w K mg base 2 "solve_all" ["ranges", "constraints"] [false, false] m_solve_all :=
  CalD.of (pn := []) F g sc_solve_all (fun _ _ _ _ _ _ us hl => match us, hl with | [_, _], _ => rfl) fun cdv A outer s H E hr => by
    have hu := hr.units
    have hu1 := hu_of hr
    have hNd := sc_solve_all.nd
    exact (b_cons (s_set (i := 2) hNd rfl (by first | exact Or.inl rfl | exact Or.inr rfl) (j_up (j_len rfl g_len (j_on (pv 0)))))
  (b_cons (s_set (i := 3) hNd rfl (by first | exact Or.inl rfl | exact Or.inr rfl) (j_add (j_ox (j_fz (j_cal C_range_triples hr (j_adat (j_up (j_nm (pv 0))) j_anil)))) (j_ox (j_fz (j_list rfl g_list (j_on (pv 1)))))))
  (b_cons (s_set (i := 4) hNd rfl (by first | exact Or.inl rfl | exact Or.inr rfl) (j_add (j_ox (j_fz (j_lc (own := [("low", 8), ("high", 9)]) rfl hNd (w_sq (j_nm (pv 0))) (by with_unfolding_all rfl) (fun _ _ _ _ _ => (c_tp rfl (c_co (c_nm (i := 8) hNd rfl (by first | exact Or.inl rfl | exact Or.inr rfl)) (c_co (c_nm (i := 9) hNd rfl (by first | exact Or.inl rfl | exact Or.inr rfl)) c_nil)) (many_co (many_co many_ni)))) (fun _ _ _ _ _ => ts_nil) (fun _ _ _ _ _ => (j_up (j_neg (j_on (pv 8)))))))) (j_ox (j_fz (j_lst (j_adat (j_up j_int) j_anil))))))
  (b_cons (s_set (i := 5) hNd rfl (by first | exact Or.inl rfl | exact Or.inr rfl) (j_add (j_ox (j_fz (j_lc (own := [("i", 10)]) rfl hNd (w_r1 rfl g_range (j_nm (pv 2))) (by with_unfolding_all rfl) (fun _ _ _ _ _ => (c_nm (i := 10) hNd rfl (by first | exact Or.inl rfl | exact Or.inr rfl))) (fun _ _ _ _ _ => ts_nil) (fun _ _ _ _ _ => (j_add (j_ox (j_fz (j_mul (j_ox j_int) (j_on (pv 10))))) (j_ox j_int)))))) (j_ox (j_fz (j_lst (j_adat (j_up (j_neg (j_ox j_int))) j_anil))))))
  (b_cons (s_set (i := 6) hNd rfl (by first | exact Or.inl rfl | exact Or.inr rfl) (j_up (j_nm (pv 2))))
  (b_cons (s_for PassesOwn.never rfl (w_r1 rfl g_range (j_fz (j_add (j_on (pv 2)) (j_ox j_int)))) (g_nm (i := 7) hNd rfl (by first | exact Or.inl rfl | exact Or.inr rfl)) (b_cons (s_set (i := 6) hNd rfl (by first | exact Or.inl rfl | exact Or.inr rfl) (j_cal C_shorten hr (j_adat (j_up (j_nm (pv 3))) (j_aref (pv 4) (j_aref (pv 5) j_anil)))))
  (b_one (s_if (j_tlt (j_on (pv 6)) (j_ox j_int)) (b_one (s_ret (j_up (j_tup (j_adat (j_up j_str) (j_adat (j_up (j_tuple rfl g_tuple (j_ox (j_fz (j_lc (own := [("i", 10)]) rfl hNd (w_r1 rfl g_range (j_nm (pv 2))) (by with_unfolding_all rfl) (fun _ _ _ _ _ => (c_nm (i := 10) hNd rfl (by first | exact Or.inl rfl | exact Or.inr rfl))) (fun _ _ _ _ _ => ts_nil) (fun _ _ _ _ _ => (j_up (j_neg (j_ox (j_ix hu1 (j_on (pv 4)) (j_on (pv 10)))))))))))) j_anil)))))) b_nil))))
  (b_one (s_ret (j_up (j_tup (j_adat (j_up j_str) (j_adat (j_up (j_fz (j_cal C_closed_walk hr (j_adat (j_up (j_nm (pv 3))) (j_adat (j_up (j_nm (pv 5))) (j_adat (j_up (j_nm (pv 6))) j_anil)))))) j_anil))))))))))))
abbrev s_solve : Stmt := top 5
theorem sc_solve : FnScope ["ranges", "constraints"] ["ranges", "constraints"] (L2.defScope s_solve) := ⟨rfl, rfl, rfl, by decide +kernel, rfl, by decide +kernel, by decide +kernel⟩
theorem ok_solve {f : Addr} {fd : FuncData} (F : FnP K "solve" s_solve f fd) (g : mg "solve" = some (.ref f)) (C_solve_all : CalD P w K mg base 2 "solve_all" ["ranges", "constraints"] [false, false] m_solve_all) : CalD P w K mg base 3 "solve" ["ranges", "constraints"] [false, false] m_solve :=
  CalD.of (pn := []) F g sc_solve (fun _ _ _ _ _ _ us hl => match us, hl with | [_, _], _ => rfl) fun cdv A outer s H E hr => by
    have hu := hr.units
    have hu1 := hu_of hr
    have hNd := sc_solve.nd
    exact (b_one (s_ret (j_cal C_solve_all hr (j_adat (j_up (j_nm (pv 0))) (j_adat (j_up (j_nm (pv 1))) j_anil)))))
abbrev s__law_same : Stmt := top 10
theorem sc__law_same : FnScope ["got", "due", "k"] ["got", "due"] (L2.defScope s__law_same) := ⟨rfl, rfl, rfl, by decide +kernel, rfl, by decide +kernel, by decide +kernel⟩
theorem ok__law_same {f : Addr} {fd : FuncData} (F : FnP K "_law_same" s__law_same f fd) (g : mg "_law_same" = some (.ref f)) (g_bool : mg "bool" = none) (g_int : mg "int" = none) (g_isinstance : mg "isinstance" = none) (g_len : mg "len" = none) (g_range : mg "range" = none) (g_str : mg "str" = none) (g_tuple : mg "tuple" = none) : ∀ k, CalD P w K mg base (0 + k) "_law_same" ["got", "due"] [false, false] (m__law_same k)
  | 0 => (CalD.zero F g (fun _ _ _ _ _ _ us hl => match us, hl with | [_, _], _ => rfl)).mono (Nat.zero_le _)
  | k + 1 => CalD.of (k := 0 + k) (pn := []) F g sc__law_same (fun _ _ _ _ _ _ us hl => match us, hl with | [_, _], _ => rfl) fun cdv A outer s H E hr => by
    have hu := hr.units
    have hu1 := hu_of hr
    have hNd := sc__law_same.nd
    have C__law_same := ok__law_same F g  g_bool g_int g_isinstance g_len g_range g_str g_tuple k
    exact (b_cons (s_if (j_tisN (j_on (pv 1)) (j_ox j_non)) (b_one (s_ret (j_up (j_isN (j_on (pv 0)) (j_ox j_non))))) b_nil)
  (b_cons (s_if (j_tru (j_ox (j_isi .tuple (by rfl) g_isinstance (by rfl) g_tuple (by decide +kernel) (j_on (pv 1))))) (b_cons (s_if (WE.be (j_or (j_not (j_tru (j_ox (j_isi .tuple (by rfl) g_isinstance (by rfl) g_tuple (by decide +kernel) (j_on (pv 0)))))) (j_or1 (j_tne hu (j_ox (j_len rfl g_len (j_on (pv 0)))) (j_ox (j_len rfl g_len (j_on (pv 1)))))))) (b_one (s_ret (j_up j_bl))) b_nil)
  (b_cons (s_for PassesOwn.never rfl (w_r1 rfl g_range (j_len rfl g_len (j_on (pv 1)))) (g_nm (i := 2) hNd rfl (by first | exact Or.inl rfl | exact Or.inr rfl)) (b_one (s_if (j_not (j_tru (j_ox (j_fz (j_cal C__law_same hr (j_adat (j_up (j_ix hu1 (j_on (pv 0)) (j_on (pv 2)))) (j_adat (j_up (j_ix hu1 (j_on (pv 1)) (j_on (pv 2)))) j_anil)) (Nat.le_refl _)))))) (b_one (s_ret (j_up j_bl))) b_nil)))
  (b_one (s_ret (j_up j_bl))))) b_nil)
  (b_cons (s_if (j_tru (j_ox (j_isi .bool (by rfl) g_isinstance (by rfl) g_bool (by decide +kernel) (j_on (pv 1))))) (b_one (s_ret (j_up (j_andV (j_isi .bool (by rfl) g_isinstance (by rfl) g_bool (by decide +kernel) (j_on (pv 0))) (j_one (j_eq hu (j_on (pv 0)) (j_on (pv 1)))))))) b_nil)
  (b_cons (s_if (j_tru (j_ox (j_isi .int (by rfl) g_isinstance (by rfl) g_int (by decide +kernel) (j_on (pv 1))))) (b_one (s_ret (j_up (j_andV (j_isi .int (by rfl) g_isinstance (by rfl) g_int (by decide +kernel) (j_on (pv 0))) (j_andV (j_notV (j_isi .bool (by rfl) g_isinstance (by rfl) g_bool (by decide +kernel) (j_on (pv 0)))) (j_one (j_eq hu (j_on (pv 0)) (j_on (pv 1))))))))) b_nil)
  (b_one (s_ret (j_up (j_andV (j_isi .str (by rfl) g_isinstance (by rfl) g_str (by decide +kernel) (j_on (pv 0))) (j_one (j_eq hu (j_on (pv 0)) (j_on (pv 1))))))))))))
abbrev s__law_whole : Stmt := top 11
theorem sc__law_whole : FnScope ["k"] ["k"] (L2.defScope s__law_whole) := ⟨rfl, rfl, rfl, by decide +kernel, rfl, by decide +kernel, by decide +kernel⟩
theorem ok__law_whole {f : Addr} {fd : FuncData} (F : FnP K "_law_whole" s__law_whole f fd) (g : mg "_law_whole" = some (.ref f)) (g_bool : mg "bool" = none) (g_int : mg "int" = none) (g_isinstance : mg "isinstance" = none) : CalD P w K mg base 1 "_law_whole" ["k"] [false] m__law_whole :=
  CalD.of (pn := []) F g sc__law_whole (fun _ _ _ _ _ _ us hl => match us, hl with | [_], _ => rfl) fun cdv A outer s H E hr => by
    have hu := hr.units
    have hu1 := hu_of hr
    have hNd := sc__law_whole.nd
    exact (b_one (s_ret (j_up (j_andV (j_isi .int (by rfl) g_isinstance (by rfl) g_int (by decide +kernel) (j_on (pv 0))) (j_one (j_notV (j_isi .bool (by rfl) g_isinstance (by rfl) g_bool (by decide +kernel) (j_on (pv 0)))))))))
abbrev s__law_walk_ok : Stmt := top 12
theorem sc__law_walk_ok : FnScope ["ranges", "constraints", "places", "n", "listed", "i", "k", "total", "one", "then"] ["ranges", "constraints", "places"] (L2.defScope s__law_walk_ok) := ⟨rfl, rfl, rfl, by decide +kernel, rfl, by decide +kernel, by decide +kernel⟩
theorem ok__law_walk_ok {f : Addr} {fd : FuncData} (F : FnP K "_law_walk_ok" s__law_walk_ok f fd) (g : mg "_law_walk_ok" = some (.ref f)) (C__law_whole : CalD P w K mg base 1 "_law_whole" ["k"] [false] m__law_whole) (g_int : mg "int" = none) (g_isinstance : mg "isinstance" = none) (g_len : mg "len" = none) (g_list : mg "list" = none) (g_range : mg "range" = none) (g_tuple : mg "tuple" = none) : CalD P w K mg base 2 "_law_walk_ok" ["ranges", "constraints", "places"] [false, false, false] m__law_walk_ok :=
  CalD.of (pn := []) F g sc__law_walk_ok (fun _ _ _ _ _ _ us hl => match us, hl with | [_, _, _], _ => rfl) fun cdv A outer s H E hr => by
    have hu := hr.units
    have hu1 := hu_of hr
    have hNd := sc__law_walk_ok.nd
    exact (b_cons (s_set (i := 3) hNd rfl (by first | exact Or.inl rfl | exact Or.inr rfl) (j_up (j_len rfl g_len (j_on (pv 0)))))
  (b_cons (s_set (i := 4) hNd rfl (by first | exact Or.inl rfl | exact Or.inr rfl) (j_lst j_anil))
  (b_cons (s_for PassesOwn.never rfl (w_r1 rfl g_range (j_nm (pv 3))) (g_nm (i := 5) hNd rfl (by first | exact Or.inl rfl | exact Or.inr rfl)) (b_one (s_set (i := 4) hNd rfl (by first | exact Or.inl rfl | exact Or.inr rfl) (j_add (j_on (pv 4)) (j_ox (j_fz (j_lst (j_adat (j_up (j_tup (j_adat (j_up (j_nm (pv 5))) (j_adat (j_up (j_nm (pv 3))) (j_adat (j_up (j_ix hu1 (j_ox (j_ix hu1 (j_on (pv 0)) (j_on (pv 5)))) (j_ox j_int))) j_anil))))) (j_adat (j_up (j_tup (j_adat (j_up (j_nm (pv 3))) (j_adat (j_up (j_nm (pv 5))) (j_adat (j_up (j_neg (j_ox (j_ix hu1 (j_ox (j_ix hu1 (j_on (pv 0)) (j_on (pv 5)))) (j_ox j_int))))) j_anil))))) j_anil)))))))))
  (b_cons (s_set (i := 4) hNd rfl (by first | exact Or.inl rfl | exact Or.inr rfl) (j_add (j_on (pv 4)) (j_ox (j_fz (j_list rfl g_list (j_on (pv 1)))))))
  (b_cons (s_if (WE.be (j_or (j_not (j_tru (j_ox (j_isi .tuple (by rfl) g_isinstance (by rfl) g_tuple (by decide +kernel) (j_on (pv 2)))))) (j_or1 (j_teq hu (j_ox (j_len rfl g_len (j_on (pv 2)))) (j_ox j_int))))) (b_one (s_ret (j_up j_bl))) b_nil)
  (b_cons (s_for PassesOwn.never rfl (w_sq (j_nm (pv 2))) (g_nm (i := 6) hNd rfl (by first | exact Or.inl rfl | exact Or.inr rfl)) (b_one (s_if (WE.be (j_or (j_not (j_tru (j_ox (j_fz (j_cal C__law_whole hr (j_adat (j_up (j_nm (pv 6))) j_anil)))))) (j_or1 (j_not (j_tchain op_le op_lt g_cI g_cI (j_ox j_int) (j_on (pv 6)) (j_ox (j_len rfl g_len (j_on (pv 4))))))))) (b_one (s_ret (j_up j_bl))) b_nil)))
  (b_cons (s_set (i := 7) hNd rfl (by first | exact Or.inl rfl | exact Or.inr rfl) (j_up j_int))
  (b_cons (s_for PassesOwn.never rfl (w_r1 rfl g_range (j_len rfl g_len (j_on (pv 2)))) (g_nm (i := 6) hNd rfl (by first | exact Or.inl rfl | exact Or.inr rfl)) (b_cons (s_set (i := 8) hNd rfl (by first | exact Or.inl rfl | exact Or.inr rfl) (j_up (j_ix hu1 (j_on (pv 4)) (j_ox (j_ix hu1 (j_on (pv 2)) (j_on (pv 6)))))))
  (b_cons (s_set (i := 9) hNd rfl (by first | exact Or.inl rfl | exact Or.inr rfl) (j_up (j_ix hu1 (j_on (pv 4)) (j_ox (j_ix hu1 (j_on (pv 2)) (j_ox (j_mod (j_ox (j_intc rfl g_int (j_ox (j_fz (j_add (j_on (pv 6)) (j_ox j_int)))))) (j_ox (j_len rfl g_len (j_on (pv 2)))))))))))
  (b_cons (s_set (i := 7) hNd rfl (by first | exact Or.inl rfl | exact Or.inr rfl) (j_add (j_on (pv 7)) (j_ox (j_ix hu1 (j_on (pv 8)) (j_ox j_int)))))
  (b_one (s_if (j_tne hu (j_ox (j_ix hu1 (j_on (pv 8)) (j_ox j_int))) (j_ox (j_ix hu1 (j_on (pv 9)) (j_ox j_int)))) (b_one (s_ret (j_up j_bl))) b_nil))))))
  (b_one (s_ret (j_up (j_lt (j_on (pv 7)) (j_ox j_int)))))))))))))
abbrev s__law_points : Stmt := top 14
theorem sc__law_points : FnScope ["ranges", "told", "pair", "more", "one", "v"] ["ranges"] (L2.defScope s__law_points) := ⟨rfl, rfl, rfl, by decide +kernel, rfl, by decide +kernel, by decide +kernel⟩
theorem ok__law_points {f : Addr} {fd : FuncData} (F : FnP K "_law_points" s__law_points f fd) (g : mg "_law_points" = some (.ref f)) (g_range : mg "range" = none) : CalD P w K mg base 1 "_law_points" ["ranges"] [false] m__law_points :=
  CalD.of (pn := []) F g sc__law_points (fun _ _ _ _ _ _ us hl => match us, hl with | [_], _ => rfl) fun cdv A outer s H E hr => by
    have hu := hr.units
    have hu1 := hu_of hr
    have hNd := sc__law_points.nd
    exact (b_cons (s_set (i := 1) hNd rfl (by first | exact Or.inl rfl | exact Or.inr rfl) (j_lst (j_adat (j_up (j_tup j_anil)) j_anil)))
  (b_cons (s_for PassesOwn.never rfl (w_sq (j_nm (pv 0))) (g_nm (i := 2) hNd rfl (by first | exact Or.inl rfl | exact Or.inr rfl)) (b_cons (s_set (i := 3) hNd rfl (by first | exact Or.inl rfl | exact Or.inr rfl) (j_lst j_anil))
  (b_cons (s_for PassesOwn.never rfl (w_sq (j_nm (pv 1))) (g_nm (i := 4) hNd rfl (by first | exact Or.inl rfl | exact Or.inr rfl)) (b_one (s_set (i := 3) hNd rfl (by first | exact Or.inl rfl | exact Or.inr rfl) (j_add (j_on (pv 3)) (j_ox (j_fz (j_lc (own := [("v", 5)]) rfl hNd (w_r2 rfl g_range (j_ix hu1 (j_on (pv 2)) (j_ox j_int)) (j_fz (j_add (j_ox (j_ix hu1 (j_on (pv 2)) (j_ox j_int))) (j_ox j_int)))) (by with_unfolding_all rfl) (fun _ _ _ _ _ => (c_nm (i := 5) hNd rfl (by first | exact Or.inl rfl | exact Or.inr rfl))) (fun _ _ _ _ _ => ts_nil) (fun _ _ _ _ _ => (j_add (j_on (pv 4)) (j_ox (j_tup (j_adat (j_up (j_nm (pv 5))) j_anil))))))))))))
  (b_one (s_set (i := 1) hNd rfl (by first | exact Or.inl rfl | exact Or.inr rfl) (j_up (j_nm (pv 3))))))))
  (b_one (s_ret (j_mv (pv 1))))))
abbrev s__law_solves : Stmt := top 15
theorem sc__law_solves : FnScope ["point", "constraints", "full", "one"] ["point", "constraints"] (L2.defScope s__law_solves) := ⟨rfl, rfl, rfl, by decide +kernel, rfl, by decide +kernel, by decide +kernel⟩
theorem ok__law_solves {f : Addr} {fd : FuncData} (F : FnP K "_law_solves" s__law_solves f fd) (g : mg "_law_solves" = some (.ref f)) : CalD P w K mg base 1 "_law_solves" ["point", "constraints"] [false, false] m__law_solves :=
  CalD.of (pn := []) F g sc__law_solves (fun _ _ _ _ _ _ us hl => match us, hl with | [_, _], _ => rfl) fun cdv A outer s H E hr => by
    have hu := hr.units
    have hu1 := hu_of hr
    have hNd := sc__law_solves.nd
    exact (b_cons (s_set (i := 2) hNd rfl (by first | exact Or.inl rfl | exact Or.inr rfl) (j_add (j_on (pv 0)) (j_ox (j_tup (j_adat (j_up j_int) j_anil)))))
  (b_one (s_ret (j_up (j_eq hu (j_ox (j_fz (j_lc (own := [("one", 3)]) rfl hNd (w_sq (j_nm (pv 1))) (by with_unfolding_all rfl) (fun _ _ _ _ _ => (c_nm (i := 3) hNd rfl (by first | exact Or.inl rfl | exact Or.inr rfl))) (fun _ _ _ _ _ => (ts_one (j_tgt (j_ox (j_sub (j_ox (j_ix hu1 (j_on (pv 2)) (j_ox (j_ix hu1 (j_on (pv 3)) (j_ox j_int))))) (j_ox (j_ix hu1 (j_on (pv 2)) (j_ox (j_ix hu1 (j_on (pv 3)) (j_ox j_int))))))) (j_ox (j_ix hu1 (j_on (pv 3)) (j_ox j_int)))))) (fun _ _ _ _ _ => (j_up j_int))))) (j_ox (j_fz (j_lst j_anil))))))))
abbrev s__law_least_point : Stmt := top 16
theorem sc__law_least_point : FnScope ["ranges", "constraints", "found", "point", "k"] ["ranges", "constraints"] (L2.defScope s__law_least_point) := ⟨rfl, rfl, rfl, by decide +kernel, rfl, by decide +kernel, by decide +kernel⟩
theorem ok__law_least_point {f : Addr} {fd : FuncData} (F : FnP K "_law_least_point" s__law_least_point f fd) (g : mg "_law_least_point" = some (.ref f)) (C__law_points : CalD P w K mg base 1 "_law_points" ["ranges"] [false] m__law_points) (C__law_solves : CalD P w K mg base 1 "_law_solves" ["point", "constraints"] [false, false] m__law_solves) (g_len : mg "len" = none) (g_min : mg "min" = none) (g_range : mg "range" = none) (g_tuple : mg "tuple" = none) : CalD P w K mg base 2 "_law_least_point" ["ranges", "constraints"] [false, false] m__law_least_point :=
  CalD.of (pn := []) F g sc__law_least_point (fun _ _ _ _ _ _ us hl => match us, hl with | [_, _], _ => rfl) fun cdv A outer s H E hr => by
    have hu := hr.units
    have hu1 := hu_of hr
    have hNd := sc__law_least_point.nd
    exact (b_cons (s_set (i := 2) hNd rfl (by first | exact Or.inl rfl | exact Or.inr rfl) (j_lc (own := [("point", 3)]) rfl hNd (w_sq (j_fz (j_cal C__law_points hr (j_adat (j_up (j_nm (pv 0))) j_anil)))) (by with_unfolding_all rfl) (fun _ _ _ _ _ => (c_nm (i := 3) hNd rfl (by first | exact Or.inl rfl | exact Or.inr rfl))) (fun _ _ _ _ _ => (ts_one (j_tru (j_ox (j_fz (j_cal C__law_solves hr (j_adat (j_up (j_nm (pv 3))) (j_adat (j_up (j_nm (pv 1))) j_anil)))))))) (fun _ _ _ _ _ => (j_up (j_nm (pv 3))))))
  (b_cons (s_if (j_teq hu (j_on (pv 2)) (j_ox (j_fz (j_lst j_anil)))) (b_one (s_ret (j_up j_non))) b_nil)
  (b_one (s_ret (j_up (j_tuple rfl g_tuple (j_ox (j_fz (j_lc (own := [("k", 4)]) rfl hNd (w_r1 rfl g_range (j_len rfl g_len (j_on (pv 0)))) (by with_unfolding_all rfl) (fun _ _ _ _ _ => (c_nm (i := 4) hNd rfl (by first | exact Or.inl rfl | exact Or.inr rfl))) (fun _ _ _ _ _ => ts_nil) (fun _ _ _ _ _ => (j_up (j_min rfl rfl g_min (j_ox (j_fz (j_lc (own := [("point", 3)]) rfl hNd (w_sq (j_nm (pv 2))) (by with_unfolding_all rfl) (fun _ _ _ _ _ => (c_nm (i := 3) hNd rfl (by first | exact Or.inl rfl | exact Or.inr rfl))) (fun _ _ _ _ _ => ts_nil) (fun _ _ _ _ _ => (j_up (j_ix hu1 (j_on (pv 3)) (j_on (pv 4))))))))))))))))))))
abbrev s__law_answered : Stmt := top 17
theorem sc__law_answered : FnScope ["ranges", "constraints", "listed", "due", "given", "told"] ["ranges", "constraints", "listed"] (L2.defScope s__law_answered) := ⟨rfl, rfl, rfl, by decide +kernel, rfl, by decide +kernel, by decide +kernel⟩
theorem ok__law_answered {f : Addr} {fd : FuncData} (F : FnP K "_law_answered" s__law_answered f fd) (g : mg "_law_answered" = some (.ref f)) (C_solve : CalD P w K mg base 3 "solve" ["ranges", "constraints"] [false, false] m_solve) (C__law_same : CalD P w K mg base 8 "_law_same" ["got", "due"] [false, false] (m__law_same 8)) (C__law_walk_ok : CalD P w K mg base 2 "_law_walk_ok" ["ranges", "constraints", "places"] [false, false, false] m__law_walk_ok) (C__law_least_point : CalD P w K mg base 2 "_law_least_point" ["ranges", "constraints"] [false, false] m__law_least_point) (g_isinstance : mg "isinstance" = none) (g_len : mg "len" = none) (g_list : mg "list" = none) (g_str : mg "str" = none) (g_tuple : mg "tuple" = none) : CalD P w K mg base 9 "_law_answered" ["ranges", "constraints", "listed"] [false, false, false] m__law_answered :=
  CalD.of (pn := []) F g sc__law_answered (fun _ _ _ _ _ _ us hl => match us, hl with | [_, _, _], _ => rfl) fun cdv A outer s H E hr => by
    have hu := hr.units
    have hu1 := hu_of hr
    have hNd := sc__law_answered.nd
    exact (b_cons (s_set (i := 3) hNd rfl (by first | exact Or.inl rfl | exact Or.inr rfl) (j_cal C__law_least_point hr (j_adat (j_up (j_nm (pv 0))) (j_adat (j_up (j_nm (pv 1))) j_anil))))
  (b_cons (s_set (i := 4) hNd rfl (by first | exact Or.inl rfl | exact Or.inr rfl) (j_lst (j_adat (j_up (j_fz (j_list rfl g_list (j_on (pv 0))))) (j_adat (j_up (j_fz (j_list rfl g_list (j_on (pv 1))))) j_anil))))
  (b_cons (s_if (j_tru (j_on (pv 2))) (b_one (s_set (i := 5) hNd rfl (by first | exact Or.inl rfl | exact Or.inr rfl) (j_cal C_solve hr (j_adat (j_up (j_ix hu1 (j_on (pv 4)) (j_ox j_int))) (j_adat (j_up (j_ix hu1 (j_on (pv 4)) (j_ox j_int))) j_anil))))) (b_one (s_set (i := 5) hNd rfl (by first | exact Or.inl rfl | exact Or.inr rfl) (j_cal C_solve hr (j_adat (j_up (j_tuple rfl g_tuple (j_on (pv 0)))) (j_adat (j_up (j_tuple rfl g_tuple (j_on (pv 1)))) j_anil))))))
  (b_cons (s_if (j_tne hu (j_on (pv 4)) (j_ox (j_fz (j_lst (j_adat (j_up (j_fz (j_list rfl g_list (j_on (pv 0))))) (j_adat (j_up (j_fz (j_list rfl g_list (j_on (pv 1))))) j_anil)))))) (b_one (s_ret (j_up j_bl))) b_nil)
  (b_cons (s_if (j_tnoN (j_on (pv 3)) (j_ox j_non)) (b_one (s_ret (j_cal C__law_same hr (j_adat (j_up (j_nm (pv 5))) (j_adat (j_up (j_tup (j_adat (j_up j_str) (j_adat (j_up (j_nm (pv 3))) j_anil)))) j_anil))))) b_nil)
  (b_cons (s_if (WE.be (j_or (j_not (j_tru (j_ox (j_isi .tuple (by rfl) g_isinstance (by rfl) g_tuple (by decide +kernel) (j_on (pv 5)))))) (j_or (j_tne hu (j_ox (j_len rfl g_len (j_on (pv 5)))) (j_ox j_int)) (j_or (j_not (j_tru (j_ox (j_isi .str (by rfl) g_isinstance (by rfl) g_str (by decide +kernel) (j_ox (j_ix hu1 (j_on (pv 5)) (j_ox j_int))))))) (j_or1 (j_tne hu (j_ox (j_ix hu1 (j_on (pv 5)) (j_ox j_int))) (j_ox j_str))))))) (b_one (s_ret (j_up j_bl))) b_nil)
  (b_one (s_ret (j_cal C__law_walk_ok hr (j_adat (j_up (j_nm (pv 0))) (j_adat (j_up (j_nm (pv 1))) (j_adat (j_up (j_ix hu1 (j_on (pv 5)) (j_ox j_int))) j_anil))))))))))))
abbrev s_law : Stmt := top 18
theorem sc_law : FnScope ["script", "pool", "first", "listed", "second"] ["script"] (L2.defScope s_law) := ⟨rfl, rfl, rfl, by decide +kernel, rfl, by decide +kernel, by decide +kernel⟩
theorem ok_law {f : Addr} {fd : FuncData} (F : FnP K "law" s_law f fd) (C__law_pool : CalD P w K mg base 1 "_law_pool" ["script", "k"] [false, false] m__law_pool) (C__law_draw : CalD P w K mg base 1 "_law_draw" ["pool", "many"] [true, false] m__law_draw) (C__law_system : CalD P w K mg base 3 "_law_system" ["pool"] [true] m__law_system) (C__law_answered : CalD P w K mg base 9 "_law_answered" ["ranges", "constraints", "listed"] [false, false, false] m__law_answered) : FnOk P w K mg base CX0 10 f fd ["script"] (spM K [false] m_law) :=
  FnD.of (pn := []) F sc_law fun cdv A outer s H E hr => by
    have hu := hr.units
    have hu1 := hu_of hr
    have hNd := sc_law.nd
    exact (b_cons (s_set (i := 1) hNd rfl (by first | exact Or.inl rfl | exact Or.inr rfl) (j_cal C__law_pool hr (j_adat (j_up (j_nm (pv 0))) (j_adat (j_up j_int) j_anil))))
  (b_cons (s_set (i := 2) hNd rfl (by first | exact Or.inl rfl | exact Or.inr rfl) (j_cal C__law_system hr (j_aref (pv 1) j_anil)))
  (b_cons (s_set (i := 3) hNd rfl (by first | exact Or.inl rfl | exact Or.inr rfl) (j_up (j_eq hu (j_ox (j_fz (j_cal C__law_draw hr (j_aref (pv 1) (j_adat (j_up j_int) j_anil))))) (j_ox j_int))))
  (b_cons (s_set (i := 4) hNd rfl (by first | exact Or.inl rfl | exact Or.inr rfl) (j_cal C__law_system hr (j_adat (j_cal C__law_pool hr (j_adat (j_up (j_nm (pv 0))) (j_adat (j_up j_int) j_anil))) j_anil)))
  (b_cons (s_if (j_not (j_tru (j_ox (j_fz (j_cal C__law_answered hr (j_adat (j_up (j_ix hu1 (j_on (pv 2)) (j_ox j_int))) (j_adat (j_up (j_ix hu1 (j_on (pv 2)) (j_ox j_int))) (j_adat (j_up (j_nm (pv 3))) j_anil)))))))) (b_one (s_ret (j_up j_bl))) b_nil)
  (b_cons (s_if (j_not (j_tru (j_ox (j_fz (j_cal C__law_answered hr (j_adat (j_up (j_ix hu1 (j_on (pv 4)) (j_ox j_int))) (j_adat (j_up (j_ix hu1 (j_on (pv 4)) (j_ox j_int))) (j_adat (j_up (j_notV (j_nm (pv 3)))) j_anil)))))))) (b_one (s_ret (j_up j_bl))) b_nil)
  (b_one (s_ret (j_cal C__law_answered hr (j_adat (j_up (j_ix hu1 (j_on (pv 2)) (j_ox j_int))) (j_adat (j_up (j_ix hu1 (j_on (pv 2)) (j_ox j_int))) (j_adat (j_up (j_notV (j_nm (pv 3)))) j_anil))))))))))))
end
/-! ### the head -/
def d__law_pool : He.DefD := ⟨("_law_pool", none), "_law_pool", "_law_pool", L2.defArgs s__law_pool, L2.defBody s__law_pool, L2.defScope s__law_pool, [], []⟩
def d__law_draw : He.DefD := ⟨("_law_draw", none), "_law_draw", "_law_draw", L2.defArgs s__law_draw, L2.defBody s__law_draw, L2.defScope s__law_draw, [], []⟩
def d__law_pick : He.DefD := ⟨("_law_pick", none), "_law_pick", "_law_pick", L2.defArgs s__law_pick, L2.defBody s__law_pick, L2.defScope s__law_pick, [], []⟩
def d__law_system : He.DefD := ⟨("_law_system", none), "_law_system", "_law_system", L2.defArgs s__law_system, L2.defBody s__law_system, L2.defScope s__law_system, [], []⟩
def d_range_triples : He.DefD := ⟨("range_triples", none), "range_triples", "range_triples", L2.defArgs s_range_triples, L2.defBody s_range_triples, L2.defScope s_range_triples, [], []⟩
def d_shorten : He.DefD := ⟨("shorten", none), "shorten", "shorten", L2.defArgs s_shorten, L2.defBody s_shorten, L2.defScope s_shorten, [], []⟩
def d_closed_walk : He.DefD := ⟨("closed_walk", none), "closed_walk", "closed_walk", L2.defArgs s_closed_walk, L2.defBody s_closed_walk, L2.defScope s_closed_walk, [], []⟩
def d_solve_all : He.DefD := ⟨("solve_all", none), "solve_all", "solve_all", L2.defArgs s_solve_all, L2.defBody s_solve_all, L2.defScope s_solve_all, [], []⟩
def d_solve : He.DefD := ⟨("solve", none), "solve", "solve", L2.defArgs s_solve, L2.defBody s_solve, L2.defScope s_solve, [], []⟩
def d__law_same : He.DefD := ⟨("_law_same", none), "_law_same", "_law_same", L2.defArgs s__law_same, L2.defBody s__law_same, L2.defScope s__law_same, [], []⟩
def d__law_whole : He.DefD := ⟨("_law_whole", none), "_law_whole", "_law_whole", L2.defArgs s__law_whole, L2.defBody s__law_whole, L2.defScope s__law_whole, [], []⟩
def d__law_walk_ok : He.DefD := ⟨("_law_walk_ok", none), "_law_walk_ok", "_law_walk_ok", L2.defArgs s__law_walk_ok, L2.defBody s__law_walk_ok, L2.defScope s__law_walk_ok, [], []⟩
def d__law_points : He.DefD := ⟨("_law_points", none), "_law_points", "_law_points", L2.defArgs s__law_points, L2.defBody s__law_points, L2.defScope s__law_points, [], []⟩
def d__law_solves : He.DefD := ⟨("_law_solves", none), "_law_solves", "_law_solves", L2.defArgs s__law_solves, L2.defBody s__law_solves, L2.defScope s__law_solves, [], []⟩
def d__law_least_point : He.DefD := ⟨("_law_least_point", none), "_law_least_point", "_law_least_point", L2.defArgs s__law_least_point, L2.defBody s__law_least_point, L2.defScope s__law_least_point, [], []⟩
def d__law_answered : He.DefD := ⟨("_law_answered", none), "_law_answered", "_law_answered", L2.defArgs s__law_answered, L2.defBody s__law_answered, L2.defScope s__law_answered, [], []⟩
def d_law : He.DefD := ⟨("law", none), "law", "law", L2.defArgs s_law, L2.defBody s_law, L2.defScope s_law, [], []⟩
def fn : List He.DefD := [d__law_pool, d__law_draw, d__law_pick, d__law_system, d_range_triples, d_shorten, d_closed_walk, d_solve_all, d_solve, d__law_same, d__law_whole, d__law_walk_ok, d__law_points, d__law_solves, d__law_least_point, d__law_answered, d_law]
def fa : List He.Fa := [.glo "_law_pool", .glo "_law_draw", .glo "_law_pick", .glo "_law_system", .glo "range_triples", .glo "shorten", .glo "closed_walk", .glo "solve_all", .glo "solve", .glo "_law_same", .glo "_law_whole", .glo "_law_walk_ok", .glo "_law_points", .glo "_law_solves", .glo "_law_least_point", .glo "_law_answered", .glo "law", .free "abs", .free "bool", .free "enumerate", .free "int", .free "isinstance", .free "len", .free "list", .free "min", .free "range", .free "str", .free "tuple"]
abbrev R : PySem.W.OpenRow := PySem.W.OpenLaw.row PySem.Challenge.rw_testmill_k17_solve_small_systems
abbrev hk : PySem.W.Hook := He.hookD 4 fa fn
def ob (s : PySem.W.SharedT) : He.AlD := He.obsDG 4 fa fn (HandSHeadRun.getT s)
theorem ob_eq (s : PySem.W.SharedT) : ob s = hk.obs s.abs := He.obsDG_eq (HandSHeadRun.getT_eq s)
theorem facts {P : Program} {w : World} {K : PySem.W.Frag} {h : Heap} {mg : Str → Option Value} {f : Addr} (X : K.In h) (G : h.Ns mainGlobals mg) (hfa : mg ("law" : Str) = some (.ref f)) (c : He.SaysD fa fn K) :
    ∃ fd : FuncData, (∀ (s : Shared) (v : Value), BindsTo s fd ⟨[v], []⟩ [("script", v)]) ∧ ∀ base : Heap, K.In base → base.Ns mainGlobals mg → FnOk P w K mg base CX0 10 f fd ["script"] (spM K [false] m_law) := by
  obtain ⟨fd__law_pool, F__law_pool⟩ := c.def_ 0 (d := d__law_pool) rfl
  obtain ⟨fd__law_draw, F__law_draw⟩ := c.def_ 1 (d := d__law_draw) rfl
  obtain ⟨fd__law_pick, F__law_pick⟩ := c.def_ 2 (d := d__law_pick) rfl
  obtain ⟨fd__law_system, F__law_system⟩ := c.def_ 3 (d := d__law_system) rfl
  obtain ⟨fd_range_triples, F_range_triples⟩ := c.def_ 4 (d := d_range_triples) rfl
  obtain ⟨fd_shorten, F_shorten⟩ := c.def_ 5 (d := d_shorten) rfl
  obtain ⟨fd_closed_walk, F_closed_walk⟩ := c.def_ 6 (d := d_closed_walk) rfl
  obtain ⟨fd_solve_all, F_solve_all⟩ := c.def_ 7 (d := d_solve_all) rfl
  obtain ⟨fd_solve, F_solve⟩ := c.def_ 8 (d := d_solve) rfl
  obtain ⟨fd__law_same, F__law_same⟩ := c.def_ 9 (d := d__law_same) rfl
  obtain ⟨fd__law_whole, F__law_whole⟩ := c.def_ 10 (d := d__law_whole) rfl
  obtain ⟨fd__law_walk_ok, F__law_walk_ok⟩ := c.def_ 11 (d := d__law_walk_ok) rfl
  obtain ⟨fd__law_points, F__law_points⟩ := c.def_ 12 (d := d__law_points) rfl
  obtain ⟨fd__law_solves, F__law_solves⟩ := c.def_ 13 (d := d__law_solves) rfl
  obtain ⟨fd__law_least_point, F__law_least_point⟩ := c.def_ 14 (d := d__law_least_point) rfl
  obtain ⟨fd__law_answered, F__law_answered⟩ := c.def_ 15 (d := d__law_answered) rfl
  obtain ⟨fd_law, F_law⟩ := c.def_ 16 (d := d_law) rfl
  have e := hfa.symm.trans (He.glo_ok X G (c.fact 16 (f := .glo "law") rfl))
  cases e
  have b := FunD.bindsA (ps := ["script"]) F_law fun _ _ _ _ _ _ us hl => match us, hl with | [_], _ => rfl
  have g_abs := He.free_ok X G (c.fact 17 (f := .free "abs") rfl)
  have g_bool := He.free_ok X G (c.fact 18 (f := .free "bool") rfl)
  have g_enumerate := He.free_ok X G (c.fact 19 (f := .free "enumerate") rfl)
  have g_int := He.free_ok X G (c.fact 20 (f := .free "int") rfl)
  have g_isinstance := He.free_ok X G (c.fact 21 (f := .free "isinstance") rfl)
  have g_len := He.free_ok X G (c.fact 22 (f := .free "len") rfl)
  have g_list := He.free_ok X G (c.fact 23 (f := .free "list") rfl)
  have g_min := He.free_ok X G (c.fact 24 (f := .free "min") rfl)
  have g_range := He.free_ok X G (c.fact 25 (f := .free "range") rfl)
  have g_str := He.free_ok X G (c.fact 26 (f := .free "str") rfl)
  have g_tuple := He.free_ok X G (c.fact 27 (f := .free "tuple") rfl)
  refine ⟨fd_law, fun s v => b s [v] rfl, fun base _ _ => ?_⟩
  have C__law_pool := ok__law_pool (P := P) (w := w) (base := base) F__law_pool (He.glo_ok X G (c.fact 0 (f := .glo "_law_pool") rfl))  g_abs g_int g_len
  have C__law_draw := ok__law_draw (P := P) (w := w) (base := base) F__law_draw (He.glo_ok X G (c.fact 1 (f := .glo "_law_draw") rfl))  g_int
  have C__law_pick := ok__law_pick (P := P) (w := w) (base := base) F__law_pick (He.glo_ok X G (c.fact 2 (f := .glo "_law_pick") rfl)) C__law_draw g_len
  have C__law_system := ok__law_system (P := P) (w := w) (base := base) F__law_system (He.glo_ok X G (c.fact 3 (f := .glo "_law_system") rfl)) C__law_draw C__law_pick g_range
  have C_range_triples := ok_range_triples (P := P) (w := w) (base := base) F_range_triples (He.glo_ok X G (c.fact 4 (f := .glo "range_triples") rfl))  g_enumerate g_len
  have C_shorten := ok_shorten (P := P) (w := w) (base := base) F_shorten (He.glo_ok X G (c.fact 5 (f := .glo "shorten") rfl))  g_enumerate
  have C_closed_walk := ok_closed_walk (P := P) (w := w) (base := base) F_closed_walk (He.glo_ok X G (c.fact 6 (f := .glo "closed_walk") rfl))  g_tuple
  have C_solve_all := ok_solve_all (P := P) (w := w) (base := base) F_solve_all (He.glo_ok X G (c.fact 7 (f := .glo "solve_all") rfl)) C_range_triples C_shorten C_closed_walk g_len g_list g_range g_tuple
  have C_solve := ok_solve (P := P) (w := w) (base := base) F_solve (He.glo_ok X G (c.fact 8 (f := .glo "solve") rfl)) C_solve_all 
  have C__law_same := ok__law_same (P := P) (w := w) (base := base) F__law_same (He.glo_ok X G (c.fact 9 (f := .glo "_law_same") rfl))  g_bool g_int g_isinstance g_len g_range g_str g_tuple 8
  have C__law_whole := ok__law_whole (P := P) (w := w) (base := base) F__law_whole (He.glo_ok X G (c.fact 10 (f := .glo "_law_whole") rfl))  g_bool g_int g_isinstance
  have C__law_walk_ok := ok__law_walk_ok (P := P) (w := w) (base := base) F__law_walk_ok (He.glo_ok X G (c.fact 11 (f := .glo "_law_walk_ok") rfl)) C__law_whole g_int g_isinstance g_len g_list g_range g_tuple
  have C__law_points := ok__law_points (P := P) (w := w) (base := base) F__law_points (He.glo_ok X G (c.fact 12 (f := .glo "_law_points") rfl))  g_range
  have C__law_solves := ok__law_solves (P := P) (w := w) (base := base) F__law_solves (He.glo_ok X G (c.fact 13 (f := .glo "_law_solves") rfl))  
  have C__law_least_point := ok__law_least_point (P := P) (w := w) (base := base) F__law_least_point (He.glo_ok X G (c.fact 14 (f := .glo "_law_least_point") rfl)) C__law_points C__law_solves g_len g_min g_range g_tuple
  have C__law_answered := ok__law_answered (P := P) (w := w) (base := base) F__law_answered (He.glo_ok X G (c.fact 15 (f := .glo "_law_answered") rfl)) C_solve C__law_same C__law_walk_ok C__law_least_point g_isinstance g_len g_list g_str g_tuple
  have C_law := ok_law (P := P) (w := w) (base := base) F_law C__law_pool C__law_draw C__law_system C__law_answered 
  exact C_law
end Lk17

/-! k17: what the defs compute. -/
namespace Lk17
open PySem L2 MP
def IsPool (p : D) : Prop := ∃ c t f : Int, p = .lst true [.int c, .int t, .int f]
theorem pool_ev (ns : List Int) (k : Nat) : ∃ p, IsPool p ∧ m__law_pool [.fro (ns.map D.int), .int k] = some (p, [none, none]) := by
  by_cases h : k < ns.length
  · refine ⟨_, ⟨if ns[k] < 0 then -ns[k] else ns[k], 3 + k, if (1000000000000000000 : Int) ≤ (if ns[k] < 0 then -ns[k] else ns[k]) then 1 else 0, rfl⟩, ?_⟩
    simp [fnM_r, t__law_pool_1, t__law_pool_2, t__law_pool_3, b__law_pool, m__law_pool, h, atI_n]
  · refine ⟨_, ⟨0, 3 + k, 0, rfl⟩, ?_⟩
    simp [fnM_r, t__law_pool_1, t__law_pool_2, t__law_pool_3, b__law_pool, m__law_pool, h, atI_n]
def mixV (c t m : Int) : Int :=
  let x := (c % 999999937 * 48271 + (t + 1) * 69621 + 9973) % 2147483647
  let y := (x * x + (t + 1) * 16807) % 2147483629
  let z := (y * y + 40014) % 2147483563
  z / 11 % m
theorem draw_ev {p : D} (hp : IsPool p) {m : Int} (hm : 0 < m) (h2 : m < 18446744073709551616) : ∃ r p', IsPool p' ∧ 0 ≤ r ∧ r < m ∧ m__law_draw [p, .int m] = some (.int r, [some p', none]) := by
  obtain ⟨c, t, f, rfl⟩ := hp
  have slow : (¬ f = 1 ∨ ¬ 0 < c) → ∃ r p', IsPool p' ∧ 0 ≤ r ∧ r < m ∧ m__law_draw [.lst true [.int c, .int t, .int f], .int m] = some (.int r, [some p', none]) := fun h => by
    refine ⟨mixV c t m, _, ⟨c, t + 1, f, rfl⟩, Int.emod_nonneg _ (by omega), Int.emod_lt_of_pos _ hm, ?_⟩
    by_cases h1 : f = 1
    · have h2 : ¬ 0 < c := by rcases h with h | h; exact absurd h1 h; exact h
      simp [fnM_r, t__law_draw_1, t__law_draw_2, t__law_draw_3, t__law_draw_4, t__law_draw_5, t__law_draw_6, b__law_draw, m__law_draw, h1, h2, hm, mixV]
    · simp [fnM_r, t__law_draw_1, t__law_draw_2, t__law_draw_3, t__law_draw_4, t__law_draw_5, t__law_draw_6, b__law_draw, m__law_draw, h1, hm, mixV]
  by_cases h : f = 1
  · by_cases hc : 0 < c
    · subst h
      refine ⟨c % m, _, ⟨c / m, t, 1, rfl⟩, Int.emod_nonneg _ (by omega), Int.emod_lt_of_pos _ hm, ?_⟩
      simp [fnM_r, t__law_draw_1, t__law_draw_2, t__law_draw_3, t__law_draw_4, t__law_draw_5, t__law_draw_6, b__law_draw, m__law_draw, hc, hm, h2]
    · exact slow (.inr hc)
  · exact slow (.inl h)
theorem pick_ev {p : D} (hp : IsPool p) {ds : List D} (h0 : ds ≠ []) (h1 : ds.length < 1000000) (pl : plain ds = true) : ∃ x ∈ ds, ∃ p', IsPool p' ∧ m__law_pick [p, .lst false ds] = some (x, [some p', none]) := by
  have hl : 0 < ds.length := List.length_pos_iff.mpr h0
  obtain ⟨r, p', hp', r0, r1, e⟩ := draw_ev hp (m := ds.length) (by omega) (by omega)
  have hr : r.toNat < ds.length := by omega
  refine ⟨ds[r.toNat], List.getElem_mem hr, p', hp', ?_⟩
  have e2 : free (atI ds r) = some ds[r.toNat] := free_of pl (by rw [atI_i ds r r0, List.getElem?_eq_getElem hr])
  simp [fnM_r, b__law_pick, m__law_pick, e, e2]
/-! ### the system -/
def prD (r : Int × Int) : D := .tup [.int r.1, .int r.2]
def tpD (c : Nat × Nat × Int) : D := .tup [.int c.1, .int c.2.1, .int c.2.2]
@[simp] theorem prD_own (r) : (prD r).own = false := rfl
@[simp] theorem tpD_own (r) : (tpD r).own = false := rfl
@[simp] theorem prD_0 (r) : gIx (prD r) (.int 0) = some (.int r.1) := id rfl
@[simp] theorem prD_1 (r) : gIx (prD r) (.int 1) = some (.int r.2) := id rfl
@[simp] theorem tpD_0 (r) : gIx (tpD r) (.int 0) = some (.int r.1) := id rfl
@[simp] theorem tpD_1 (r) : gIx (tpD r) (.int 1) = some (.int r.2.1) := id rfl
@[simp] theorem tpD_2 (r) : gIx (tpD r) (.int 2) = some (.int r.2.2) := id rfl
@[simp] theorem free_pr (r) : free (some (prD r)) = some (prD r) := id rfl
@[simp] theorem free_tp (r) : free (some (tpD r)) = some (tpD r) := id rfl
@[simp] theorem prD_fz (r) : (prD r).fz = prD r := id rfl
@[simp] theorem tpD_fz (r) : (tpD r).fz = tpD r := id rfl
@[simp] theorem nmv_pr (r i st) : nmv_ (some (prD r)) i st = some (prD r, st) := id rfl
@[simp] theorem nmv_tp (r i st) : nmv_ (some (tpD r)) i st = some (tpD r, st) := id rfl
@[simp] theorem gTp_pr (ms r st) : gTp ms (prD r) st = ms [.int r.1, .int r.2] st := id rfl
@[simp] theorem gTp_tp (ms r st) : gTp ms (tpD r) st = ms [.int r.1, .int r.2.1, .int r.2.2] st := id rfl
@[simp] theorem plain_pr (l : List (Int × Int)) : plain (l.map prD) = true := plain_map _ prD_own l
@[simp] theorem plain_tp (l : List (Nat × Nat × Int)) : plain (l.map tpD) = true := plain_map _ tpD_own l
@[simp] theorem plain_int (l : List Int) : plain (l.map D.int) = true := plain_map _ (fun _ => rfl) l
@[simp] theorem fzs_int (l : List Int) : D.fzs (l.map D.int) = l.map D.int := fzs_plain (plain_int l)
@[simp] theorem fzs_pr (l : List (Int × Int)) : D.fzs (l.map prD) = l.map prD := fzs_plain (plain_pr l)
@[simp] theorem fzs_tp (l : List (Nat × Nat × Int)) : D.fzs (l.map tpD) = l.map tpD := fzs_plain (plain_tp l)
theorem sys1 {p : D} (hp : IsPool p) (r : S) : ∃ n p', IsPool p' ∧ n ≤ 3 ∧ t__law_system_1 (some p :: none :: r) = some (.nx, some p' :: some (.int (n : Nat)) :: r) := by
  obtain ⟨x, hx, p', hp', e⟩ := pick_ev hp (ds := [.int 2, .int 3, .int 1, .int 2, .int 3, .int 0, .int 2, .int 3]) (by simp) (by simp) (by simp)
  have hn : ∃ n : Nat, n ≤ 3 ∧ x = .int n := by
    simp at hx
    rcases hx with rfl | rfl | rfl | rfl | rfl | rfl | rfl | rfl
    · exact ⟨2, by decide, rfl⟩
    · exact ⟨3, by decide, rfl⟩
    · exact ⟨1, by decide, rfl⟩
    · exact ⟨2, by decide, rfl⟩
    · exact ⟨3, by decide, rfl⟩
    · exact ⟨0, by decide, rfl⟩
    · exact ⟨2, by decide, rfl⟩
    · exact ⟨3, by decide, rfl⟩
  obtain ⟨n, hn, rfl⟩ := hn
  exact ⟨n, p', hp', hn, by simp [t__law_system_1, e]⟩
theorem sys2 {p : D} (hp : IsPool p) {n : Nat} (hn : n ≤ 3) : ∃ (ms : List Int) (p' : D), IsPool p' ∧ ms.length = n + 1 ∧ (∀ x ∈ ms, -1000000 ≤ x ∧ x ≤ 1000000) ∧
    t__law_system_2 [some p, some (.int n), none, none, none, none, none, none, none, none, none, none, none, none] = some (.nx, [some p', some (.int n), some (.lst true (ms.map D.int)), none, none, none, none, none, none, none, none, none, none, none]) := by
  obtain ⟨acc, st', e, p', xs, hp', hl, hx, rfl, rfl⟩ := lcGo_inv (own := [4]) (tg := gNm 4) (c := tYs) (el := (mCall [true, false] (m__law_pick) (aRef 0 (aDat (mFz (mLst (aDat (mC (.int 0)) (aDat (mC (.int 0)) (aDat (mUn gNeg (oEx (mC (.int 7)))) (aDat (mC (.int 999990)) (aDat (mC (.int 3)) (aDat (mUn gNeg (oEx (mC (.int 999990)))) aNil)))))))) aNil))))
    (fun i st acc => ∃ p' xs, IsPool p' ∧ xs.length = i ∧ (∀ x ∈ xs, -1000000 ≤ x ∧ x ≤ (1000000 : Int)) ∧ st = [some p', some (.int n), none, none, none, none, none, none, none, none, none, none, none, none] ∧ acc = xs.map D.int)
    (rngD 0 n) 0 [some p, some (.int n), none, none, none, none, none, none, none, none, none, none, none, none] [] ⟨p, [], hp, rfl, by simp, rfl, rfl⟩ (by
      rintro i d st acc hd ⟨p1, xs, hp1, hl, hx, rfl, rfl⟩
      obtain ⟨hi, rfl⟩ := rng_at hd
      obtain ⟨x, hxx, p2, hp2, e⟩ := pick_ev hp1 (ds := [.int 0, .int 0, .int (-7), .int 999990, .int 3, .int (-999990)]) (by simp) (by simp) (by simp)
      have hn : ∃ n : Int, (-1000000 ≤ n ∧ n ≤ 1000000) ∧ x = .int n := by
        simp at hxx
        rcases hxx with rfl | rfl | rfl | rfl | rfl | rfl <;> exact ⟨_, by decide, rfl⟩
      obtain ⟨v, hv, rfl⟩ := hn
      refine ⟨_, true, _, rfl, rfl, (by simp), fun _ => ⟨.int v, [some p2, some (.int n), none, none, some (.int i), none, none, none, none, none, none, none, none, none], ?_, ?_, p2, xs ++ [v], hp2, ?_, ?_, ?_, ?_⟩⟩
      · simp [e]
      · simp; omega
      · simp [hl]
      · intro y hy
        rcases List.mem_append.mp hy with h | h
        · exact hx y h
        · have : y = v := by simpa using h
          subst this; exact hv
      · simp
      · simp)
  refine ⟨xs ++ [0], p', hp', by simp at hl; simp [hl], ?_, ?_⟩
  · intro y hy
    rcases List.mem_append.mp hy with h | h
    · exact hx y h
    · have : y = 0 := by simpa using h
      subst this; decide
  · have h1 : (-4611686018427387904 : Int) ≤ n ∧ (n : Int) < 4611686018427387904 := by omega
    have h2 : xs.length + 1 ≤ 16777216 := by simp at hl; omega
    simp [t__law_system_2, h1, e, h2]
theorem sys4 {p : D} (hp : IsPool p) {n : Nat} (hn : n ≤ 3) {ms : List Int} (hm : ms.length = n + 1) (hb : ∀ x ∈ ms, -1000000 ≤ x ∧ x ≤ 1000000) : ∃ (rs : List (Int × Int)) (p' : D) (s4 s5 : Option D), IsPool p' ∧ rs.length = n ∧ (∀ r ∈ rs, -2000000 ≤ r.1 ∧ r.1 ≤ 1000000 ∧ -2000000 ≤ r.2 ∧ r.2 ≤ r.1 + 3 ∧ r.1 ≤ r.2) ∧
    t__law_system_4 [some p, some (.int n), some (.lst true (ms.map D.int)), some (.lst true []), none, none, none, none, none, none, none, none, none, none] =
      some (.nx, [some p', some (.int n), some (.lst true (ms.map D.int)), some (.lst true (rs.map prD)), s4, s5, none, none, none, none, none, none, none, none]) := by
  obtain ⟨st', e, p', rs, s4, s5, hp', hl, hr, rfl⟩ := forGo_inv (tg := gNm 4) (body := m__law_system_1)
    (fun i st => ∃ p' rs s4 s5, IsPool p' ∧ rs.length = i ∧ (∀ r ∈ rs, -2000000 ≤ r.1 ∧ r.1 ≤ 1000000 ∧ -2000000 ≤ r.2 ∧ r.2 ≤ r.1 + 3 ∧ r.1 ≤ r.2) ∧ st = [some p', some (.int n), some (.lst true (ms.map D.int)), some (.lst true (rs.map prD)), s4, s5, none, none, none, none, none, none, none, none])
    (rngD 0 n) 0 [some p, some (.int n), some (.lst true (ms.map D.int)), some (.lst true []), none, none, none, none, none, none, none, none, none, none] ⟨p, [], none, none, hp, rfl, by simp, rfl⟩ (by
      rintro i d st hd ⟨p1, rs, s4, s5, hp1, hl, hr, rfl⟩
      obtain ⟨hi, rfl⟩ := rng_at hd
      obtain ⟨r1, p2, hp2, r10, r11, e1⟩ := draw_ev hp1 (m := 3) (by decide) (by decide)
      obtain ⟨r2, p3, hp3, r20, r21, e2⟩ := draw_ev hp2 (m := 4) (by decide) (by decide)
      have hmi : ms[i]? = some ms[i] := List.getElem?_eq_getElem (by omega)
      have hbi := hb ms[i] (List.getElem_mem _)
      have hlt : rs.length < 16777216 := by omega
      refine ⟨_, .nx, [some p3, some (.int n), some (.lst true (ms.map D.int)), some (.lst true ((rs ++ [(ms[i] - r1, ms[i] - r1 + r2)]).map prD)), some (.int i), some (.int (ms[i] - r1)), none, none, none, none, none, none, none, none], rfl, ?_, .inl rfl, p3, rs ++ [(ms[i] - r1, ms[i] - r1 + r2)], _, _, hp3, ?_, ?_, rfl⟩
      · simp [m__law_system_1, atI_n, hmi, e1, mApp_r, e2, hlt, prD]
      · simp [hl]
      · intro y hy
        rcases List.mem_append.mp hy with h | h
        · exact hr y h
        · have : y = (ms[i] - r1, ms[i] - r1 + r2) := by simpa using h
          subst this
          simp only
          omega)
  refine ⟨rs, p', s4, s5, hp', by simpa using hl, hr, ?_⟩
  have h1 : (-4611686018427387904 : Int) ≤ n ∧ (n : Int) < 4611686018427387904 := by omega
  simp [t__law_system_4, h1, e]
theorem sys5 {p : D} (hp : IsPool p) {n : Nat} (hn : n ≤ 3) {rs : List (Int × Int)} (hr : rs.length = n) (hb : ∀ r ∈ rs, -2000000 ≤ r.1 ∧ r.1 ≤ 1000000 ∧ -2000000 ≤ r.2 ∧ r.2 ≤ r.1 + 3) (s2 s4 s5 : Option D) (hpos : ∀ r ∈ rs, r.1 ≤ r.2) : ∃ (hs : List Int) (p' : D), IsPool p' ∧ hs.length = n + 1 ∧
    t__law_system_5 [some p, some (.int n), s2, some (.lst true (rs.map prD)), s4, s5, none, none, none, none, none, none, none, none] =
      some (.nx, [some p', some (.int n), s2, some (.lst true (rs.map prD)), s4, s5, some (.lst true (hs.map D.int)), none, none, none, none, none, none, none]) := by
  obtain ⟨acc, st', e, p', hs, hp', hl, rfl, rfl⟩ := lcGo_inv (own := [13]) (tg := gNm 13) (c := tYs) (el := (mBin gAdd (oEx (mBin gIx (oNm 13) (oEx (mC (.int 0))))) (oEx (mFz (mCall [true, false] (m__law_draw) (aRef 0 (aDat (mFz (mBin gAdd (oEx (mBin gSub (oEx (mBin gIx (oNm 13) (oEx (mC (.int 1))))) (oEx (mBin gIx (oNm 13) (oEx (mC (.int 0))))))) (oEx (mC (.int 1))))) aNil)))))))
    (fun i st acc => ∃ p' hs, IsPool p' ∧ hs.length = i ∧ st = [some p', some (.int n), s2, none, s4, s5, none, none, none, none, none, none, none, none] ∧ acc = hs.map D.int)
    (rs.map prD) 0 [some p, some (.int n), s2, none, s4, s5, none, none, none, none, none, none, none, none] [] ⟨p, [], hp, rfl, rfl, rfl⟩ (by
      rintro i d st acc hd ⟨p1, hs, hp1, hl, rfl, rfl⟩
      rw [List.getElem?_map] at hd
      obtain ⟨r, hr1, rfl⟩ := Option.map_eq_some_iff.mp hd
      have hi : i < rs.length := (List.getElem?_eq_some_iff.mp hr1).1
      have hb1 := hb r (List.mem_of_getElem? hr1)
      have hpos1 := hpos r (List.mem_of_getElem? hr1)
      obtain ⟨r1, p2, hp2, r10, r11, e1⟩ := draw_ev hp1 (m := r.2 - r.1 + 1) (by omega) (by omega)
      refine ⟨_, true, _, rfl, rfl, (by simp), fun _ => ⟨.int (r.1 + r1), [some p2, some (.int n), s2, none, s4, s5, none, none, none, none, none, none, none, some (prD r)], ?_, ?_, p2, hs ++ [r.1 + r1], hp2, ?_, ?_, ?_⟩⟩
      · simp [prD, e1]
      · simp; omega
      · simp [hl]
      · simp
      · simp)
  refine ⟨hs ++ [0], p', hp', by simp at hl; simp [hl, hr], ?_⟩
  have h2 : hs.length + 1 ≤ 16777216 := by simp at hl; omega
  rw [t__law_system_5, mSet_r, mBin_r, oEx_r, mFz_r, mLcB_own 3 [13] (gNm 13) tYs _ _ (ds := rs.map prD) (acc := hs.map D.int) (st2 := [some p', some (.int n), s2, none, s4, s5, none, none, none, none, none, none, none, none]) rfl (plain_pr rs) (by simp) (by simp) (by simpa using e) (by simp)]
  simp [h2]
theorem sys6 {p : D} (hp : IsPool p) {n : Nat} (hn : n ≤ 3) {rs : List (Int × Int)} (hr : rs.length = n) (hb : ∀ r ∈ rs, -2000000 ≤ r.1 ∧ r.1 ≤ 1000000 ∧ -2000000 ≤ r.2 ∧ r.2 ≤ r.1 + 3) (s2 s4 s5 s6 : Option D) : ∃ (rs' : List (Int × Int)) (p' : D) (s7 : Option D), IsPool p' ∧ rs'.length = n ∧ (∀ r ∈ rs', -3000000 ≤ r.1 ∧ r.1 ≤ 1000000 ∧ -3000000 ≤ r.2 ∧ r.2 ≤ r.1 + 3) ∧
    t__law_system_6 [some p, some (.int n), s2, some (.lst true (rs.map prD)), s4, s5, s6, none, none, none, none, none, none, none] =
      some (.nx, [some p', some (.int n), s2, some (.lst true (rs'.map prD)), s4, s5, s6, s7, none, none, none, none, none, none]) := by
  have wk : ∀ r ∈ rs, -3000000 ≤ r.1 ∧ r.1 ≤ 1000000 ∧ -3000000 ≤ r.2 ∧ r.2 ≤ r.1 + 3 := fun r h => by have := hb r h; omega
  by_cases h0 : n = 0
  · refine ⟨rs, p, none, hp, hr, wk, ?_⟩
    simp [t__law_system_6, h0]
  · have h0' : 0 < n := by omega
    obtain ⟨r1, p1, hp1, r10, r11, e1⟩ := draw_ev hp (m := 8) (by decide) (by decide)
    by_cases h1 : r1 = 0
    · obtain ⟨r2, p2, hp2, r20, r21, e2⟩ := draw_ev hp1 (m := n) (by omega) (by omega)
      obtain ⟨r3, p3, hp3, r30, r31, e3⟩ := draw_ev hp2 (m := 4) (by decide) (by decide)
      obtain ⟨j, rfl⟩ : ∃ j : Nat, r2 = j := ⟨r2.toNat, by omega⟩
      have hj : j < rs.length := by omega
      have hjr : rs[j]? = some rs[j] := List.getElem?_eq_getElem hj
      have hbj := hb rs[j] (List.getElem_mem hj)
      refine ⟨rs.set j (rs[j].1, rs[j].1 - 1 - r3), p3, some (.int j), hp3, by simpa using hr, ?_, ?_⟩
      · intro y hy
        rcases List.mem_or_eq_of_mem_set hy with h | h
        · exact wk y h
        · subst h; simp only; omega
      · have gp : ∀ e, gPut (.lst true (rs.map prD)) (.int (j : Int)) e = some (.lst true ((rs.map prD).set j e)) := fun e => gPut_n _ j e (by simpa using hj) (plain_pr rs)
        subst h1
        simp [t__law_system_6, h0', e1, e2, e3, atI_n, hjr, gp]
        rw [show D.tup [.int rs[j].1, .int (rs[j].1 - 1 - r3)] = prD (rs[j].1, rs[j].1 - 1 - r3) from rfl]
    · refine ⟨rs, p1, none, hp1, hr, wk, ?_⟩
      simp [t__law_system_6, h0', e1, h1]
theorem sys9 {p : D} (hp : IsPool p) {n : Nat} (hn : n ≤ 3) {ms hs : List Int} (hm : ms.length = n + 1) (hh : hs.length = n + 1) (sv : Bool) (s3 s4 s5 s7 : Option D) : ∃ (cs : List (Nat × Nat × Int)) (p' : D) (t4 s10 s11 s12 : Option D), IsPool p' ∧ cs.length ≤ 8 ∧ (∀ c ∈ cs, c.1 ≤ n ∧ c.2.1 ≤ n) ∧
    t__law_system_9 [some p, some (.int n), some (.lst true (ms.map D.int)), s3, s4, s5, some (.lst true (hs.map D.int)), s7, some (.bl sv), some (.lst true []), none, none, none, none] =
      some (.nx, [some p', some (.int n), some (.lst true (ms.map D.int)), s3, t4, s5, some (.lst true (hs.map D.int)), s7, some (.bl sv), some (.lst true (cs.map tpD)), s10, s11, s12, none]) := by
  obtain ⟨x, hx, p0, hp0, e0⟩ := pick_ev hp (ds := [.int 3, .int 5, .int 2, .int 8, .int 4, .int 1, .int 6, .int 0]) (by simp) (by simp) (by simp)
  have hk : ∃ k : Nat, k ≤ 8 ∧ x = .int k := by
    simp at hx
    rcases hx with rfl | rfl | rfl | rfl | rfl | rfl | rfl | rfl
    · exact ⟨3, by decide, rfl⟩
    · exact ⟨5, by decide, rfl⟩
    · exact ⟨2, by decide, rfl⟩
    · exact ⟨8, by decide, rfl⟩
    · exact ⟨4, by decide, rfl⟩
    · exact ⟨1, by decide, rfl⟩
    · exact ⟨6, by decide, rfl⟩
    · exact ⟨0, by decide, rfl⟩
  obtain ⟨k, hk, rfl⟩ := hk
  obtain ⟨st', e, p', cs, t4, s10, s11, s12, hp', hl, hr, rfl⟩ := forGo_inv (tg := gNm 4) (body := m__law_system_2)
    (fun i st => ∃ p' cs t4 s10 s11 s12, IsPool p' ∧ cs.length = i ∧ (∀ c ∈ cs, c.1 ≤ n ∧ c.2.1 ≤ n) ∧ st = [some p', some (.int n), some (.lst true (ms.map D.int)), s3, t4, s5, some (.lst true (hs.map D.int)), s7, some (.bl sv), some (.lst true (cs.map tpD)), s10, s11, s12, none])
    (rngD 0 k) 0 [some p0, some (.int n), some (.lst true (ms.map D.int)), s3, s4, s5, some (.lst true (hs.map D.int)), s7, some (.bl sv), some (.lst true []), none, none, none, none] ⟨p0, [], s4, none, none, none, hp0, rfl, by simp, rfl⟩ (by
      rintro i d st hd ⟨p1, cs, t4, s10, s11, s12, hp1, hl, hr, rfl⟩
      obtain ⟨hi, rfl⟩ := rng_at hd
      obtain ⟨a, p2, hp2, r10, r11, e1⟩ := draw_ev hp1 (m := (n : Int) + 1) (by omega) (by omega)
      obtain ⟨b, p3, hp3, r20, r21, e2⟩ := draw_ev hp2 (m := (n : Int) + 1) (by omega) (by omega)
      obtain ⟨c, p4, hp4, r30, r31, e3⟩ := draw_ev hp3 (m := 9) (by decide) (by decide)
      obtain ⟨a, rfl⟩ : ∃ j : Nat, a = j := ⟨a.toNat, by omega⟩
      obtain ⟨b, rfl⟩ : ∃ j : Nat, b = j := ⟨b.toNat, by omega⟩
      have ha : a ≤ n := by omega
      have hb : b ≤ n := by omega
      have ma : ms[a]? = some ms[a] := List.getElem?_eq_getElem (by omega)
      have mb : ms[b]? = some ms[b] := List.getElem?_eq_getElem (by omega)
      have ga : hs[a]? = some hs[a] := List.getElem?_eq_getElem (by omega)
      have gb : hs[b]? = some hs[b] := List.getElem?_eq_getElem (by omega)
      have hlt : cs.length < 16777216 := by omega
      have done : ∀ (v : Int) (p5 : D), IsPool p5 → m__law_system_2 [some p1, some (.int n), some (.lst true (ms.map D.int)), s3, some (.int i), s5, some (.lst true (hs.map D.int)), s7, some (.bl sv), some (.lst true (cs.map tpD)), s10, s11, s12, none] =
          some (.nx, [some p5, some (.int n), some (.lst true (ms.map D.int)), s3, some (.int i), s5, some (.lst true (hs.map D.int)), s7, some (.bl sv), some (.lst true ((cs ++ [(a, b, v)]).map tpD)), some (.int a), some (.int b), some (.int v), none]) →
          ∃ st1 fl st2, gNm 4 (.int (0 + (i : Int))) [some p1, some (.int n), some (.lst true (ms.map D.int)), s3, t4, s5, some (.lst true (hs.map D.int)), s7, some (.bl sv), some (.lst true (cs.map tpD)), s10, s11, s12, none] = some st1 ∧ m__law_system_2 st1 = some (fl, st2) ∧ (fl = .nx ∨ fl = .ct) ∧
            ∃ (p' : D) (cs' : List (Nat × Nat × Int)) (t4 s10 s11 s12 : Option D), IsPool p' ∧ cs'.length = 0 + i + 1 ∧ (∀ c ∈ cs', c.1 ≤ n ∧ c.2.1 ≤ n) ∧ st2 = [some p', some (.int n), some (.lst true (ms.map D.int)), s3, t4, s5, some (.lst true (hs.map D.int)), s7, some (.bl sv), some (.lst true (cs'.map tpD)), s10, s11, s12, none] := fun v p5 hp5 ev => by
        refine ⟨_, .nx, _, rfl, by simp only [Int.zero_add, pt]; exact ev, .inl rfl, p5, cs ++ [(a, b, v)], _, _, _, _, hp5, by simp [hl], ?_, rfl⟩
        intro y hy
        rcases List.mem_append.mp hy with h | h
        · exact hr y h
        · have : y = (a, b, v) := by simpa using h
          subst this
          exact ⟨ha, hb⟩
      cases sv with
      | false =>
        refine done (ms[a] - ms[b] + c - 4) p4 hp4 ?_
        simp [m__law_system_2, atI_n, ma, mb, e1, e2, e3, mApp_r, hlt]
        rfl
      | true =>
        obtain ⟨c2, p5, hp5, r40, r41, e4⟩ := draw_ev hp4 (m := 3) (by decide) (by decide)
        refine done (hs[a] - hs[b] + c2) p5 hp5 ?_
        simp [m__law_system_2, atI_n, ma, mb, ga, gb, e1, e2, e3, e4, mApp_r, hlt]
        rfl)
  refine ⟨cs, p', t4, s10, s11, s12, hp', by simp at hl; omega, hr, ?_⟩
  have h1 : (-4611686018427387904 : Int) ≤ k ∧ (k : Int) < 4611686018427387904 := by omega
  simp [t__law_system_9, e0, h1, e]
theorem system_ev {p : D} (hp : IsPool p) : ∃ (rs : List (Int × Int)) (cs : List (Nat × Nat × Int)) (p' : D), IsPool p' ∧ rs.length ≤ 3 ∧ (∀ r ∈ rs, -3000000 ≤ r.1 ∧ r.1 ≤ 1000000 ∧ -3000000 ≤ r.2 ∧ r.2 ≤ r.1 + 3) ∧ cs.length ≤ 8 ∧ (∀ c ∈ cs, c.1 ≤ rs.length ∧ c.2.1 ≤ rs.length) ∧
    m__law_system [p] = some (.lst true [.lst false (rs.map prD), .lst false (cs.map tpD)], [some p']) := by
  obtain ⟨n, p1, hp1, hn, e1⟩ := sys1 hp [none, none, none, none, none, none, none, none, none, none, none, none]
  obtain ⟨ms, p2, hp2, hm, hmb, e2⟩ := sys2 hp1 hn
  obtain ⟨rs, p4, s4, s5, hp4, hrl, hrb, e4⟩ := sys4 hp2 hn hm hmb
  obtain ⟨hs, p5, hp5, hhl, e5⟩ := sys5 hp4 hn hrl (fun r h => by have := hrb r h; omega) (some (.lst true (ms.map D.int))) s4 s5 (fun r h => by have := hrb r h; omega)
  obtain ⟨rs', p6, s7, hp6, hrl', hrb', e6⟩ := sys6 hp5 hn hrl (fun r h => by have := hrb r h; omega) (some (.lst true (ms.map D.int))) s4 s5 (some (.lst true (hs.map D.int)))
  obtain ⟨r7, p7, hp7, _, _, e7⟩ := draw_ev hp6 (m := 2) (by decide) (by decide)
  obtain ⟨cs, p9, t4, s10, s11, s12, hp9, hcl, hcb, e9⟩ := sys9 hp7 hn hm hhl (decide (r7 = 0)) (some (.lst true (rs'.map prD))) s4 s5 s7
  refine ⟨rs', cs, p9, hp9, by omega, hrb', hcl, by rw [hrl']; exact hcb, ?_⟩
  rw [m__law_system, fnM_r, b__law_system]
  simp [e1, e2, t__law_system_3, e4, e5, e6, t__law_system_7, e7, t__law_system_8, e9, t__law_system_10]
end Lk17

/-! k17: the solver. -/
namespace Lk17
open PySem L2 MP
abbrev Edge := Nat × Nat × Int
def rangeE (n : Nat) : Nat → List (Int × Int) → List Edge
  | _, [] => []
  | i, r :: rs => (i, n, r.2) :: (n, i, -r.1) :: rangeE n (i + 1) rs
theorem rangeE_len (n : Nat) : ∀ (i : Nat) (rs : List (Int × Int)), (rangeE n i rs).length = 2 * rs.length
  | _, [] => rfl
  | i, r :: rs => by
    show (rangeE n (i + 1) rs).length + 1 + 1 = 2 * (rs.length + 1)
    rw [rangeE_len]; omega
@[simp] theorem enumD_nil (k) : enumD k [] = [] := id rfl
@[simp] theorem enumD_cons (k d ds) : enumD k (d :: ds) = .tup [.int (k : Nat), d] :: enumD (k + 1) ds := id rfl
def IsSeq (d : D) (l : List D) : Prop := d = .lst false l ∨ d = .tup l
theorem rt_loop (d : D) (n : Nat) : ∀ (rs : List (Int × Int)) (k : Nat) (acc : List Edge) (s3 s4 s5 : Option D), acc.length + 2 * rs.length ≤ 1000 → ∃ t3 t4 t5,
    forGo (gTp (gCo (gNm 3) (gCo (gTp (gCo (gNm 4) (gCo (gNm 5) gNi))) gNi))) m_range_triples_1 (enumD k (rs.map prD)) [some d, some (.int n), some (.lst true (acc.map tpD)), s3, s4, s5] =
      some (.nx, [some d, some (.int n), some (.lst true ((acc ++ rangeE n k rs).map tpD)), t3, t4, t5])
  | [], k, acc, s3, s4, s5, _ => ⟨s3, s4, s5, by simp [rangeE]⟩
  | r :: rs, k, acc, s3, s4, s5, h => by
    obtain ⟨t3, t4, t5, e⟩ := rt_loop d n rs (k + 1) (acc ++ [(k, n, r.2), (n, k, -r.1)]) (some (.int k)) (some (.int r.1)) (some (.int r.2)) (by simp at h ⊢; omega)
    refine ⟨t3, t4, t5, ?_⟩
    have h2 : acc.length + 2 ≤ 16777216 := by simp at h; omega
    rw [List.append_assoc] at e
    have e0 : [(k, n, r.2), (n, k, -r.1)] ++ rangeE n (k + 1) rs = rangeE n k (r :: rs) := rfl
    rw [e0] at e
    rw [← e]
    simp [m_range_triples_1, mExt_r, h2]
    rfl
theorem rt_ev {d : D} {rs : List (Int × Int)} (hd : IsSeq d (rs.map prD)) (hl : rs.length ≤ 100) : m_range_triples [d] = some (.lst true ((rangeE rs.length 0 rs).map tpD), [none]) := by
  obtain ⟨t3, t4, t5, e⟩ := rt_loop d rs.length rs 0 [] none none none (by simp; omega)
  have e' := e
  simp only [List.map_nil, List.nil_append] at e
  rcases hd with rfl | rfl
  · simp [fnM_r, t_range_triples_1, t_range_triples_2, t_range_triples_3, t_range_triples_4, b_range_triples, m_range_triples, e]
  · simp [fnM_r, t_range_triples_1, t_range_triples_2, t_range_triples_3, t_range_triples_4, b_range_triples, m_range_triples, e]
/-! shorten -/
structure BF where
  len : List Int
  last : List Int
  node : Int
def relax (s : BF) (p : Nat) (e : Edge) : BF :=
  if s.len.getD e.1 0 + e.2.2 < s.len.getD e.2.1 0 then ⟨s.len.set e.2.1 (s.len.getD e.1 0 + e.2.2), s.last.set e.2.1 p, e.2.1⟩ else s
def relaxAll : Nat → List Edge → BF → BF
  | _, [], s => s
  | p, e :: es, s => relaxAll (p + 1) es (relax s p e)
theorem relax_len (s p e) : (relax s p e).len.length = s.len.length ∧ (relax s p e).last.length = s.last.length := by
  unfold relax; split <;> simp
theorem relaxAll_len : ∀ (es : List Edge) (p : Nat) (s : BF), (relaxAll p es s).len.length = s.len.length ∧ (relaxAll p es s).last.length = s.last.length
  | [], _, _ => ⟨rfl, rfl⟩
  | e :: es, p, s => by
    obtain ⟨h1, h2⟩ := relaxAll_len es (p + 1) (relax s p e)
    obtain ⟨h3, h4⟩ := relax_len s p e
    exact ⟨h1.trans h3, h2.trans h4⟩
theorem atI_map (l : List Int) (a : Nat) (h : a < l.length) : free (atI (l.map D.int) (a : Int)) = some (.int (l.getD a 0)) := by
  have : l.getD a 0 = l[a] := by simp [List.getD, h]
  rw [this]
  simp [atI_n, h]
theorem gput_map (l : List Int) (a : Nat) (v : Int) (h : a < l.length) : gPut (.lst true (l.map D.int)) (.int (a : Int)) (.int v) = some (.lst true ((l.set a v).map D.int)) := by
  rw [gPut_n _ a _ (by simpa using h) (plain_int l), List.map_set]
theorem sh_loop (d : D) (n : Nat) : ∀ (es : List Edge) (p : Nat) (s : BF) (s4 s5 s6 s7 : Option D), (∀ e ∈ es, e.1 ≤ n ∧ e.2.1 ≤ n) → s.len.length = n + 1 → s.last.length = n + 1 → ∃ t4 t5 t6 t7,
    forGo (gTp (gCo (gNm 4) (gCo (gTp (gCo (gNm 5) (gCo (gNm 6) (gCo (gNm 7) gNi)))) gNi))) m_shorten_1 (enumD p (es.map tpD)) [some d, some (.lst true (s.len.map D.int)), some (.lst true (s.last.map D.int)), some (.int s.node), s4, s5, s6, s7] =
      some (.nx, [some d, some (.lst true ((relaxAll p es s).len.map D.int)), some (.lst true ((relaxAll p es s).last.map D.int)), some (.int (relaxAll p es s).node), t4, t5, t6, t7])
  | [], p, s, s4, s5, s6, s7, _, _, _ => ⟨s4, s5, s6, s7, by simp [relaxAll]⟩
  | e :: es, p, s, s4, s5, s6, s7, hb, hl, hla => by
    obtain ⟨ha, hb1⟩ := hb e List.mem_cons_self
    obtain ⟨t4, t5, t6, t7, ev⟩ := sh_loop d n es (p + 1) (relax s p e) (some (.int p)) (some (.int e.1)) (some (.int e.2.1)) (some (.int e.2.2)) (fun x hx => hb x (List.mem_cons_of_mem _ hx)) ((relax_len s p e).1.trans hl) ((relax_len s p e).2.trans hla)
    refine ⟨t4, t5, t6, t7, ?_⟩
    have g1 := atI_map s.len e.1 (by omega)
    have g2 := atI_map s.len e.2.1 (by omega)
    have g3 := gput_map s.len e.2.1 (s.len.getD e.1 0 + e.2.2) (by omega)
    have g4 := gput_map s.last e.2.1 p (by omega)
    rw [show relaxAll p (e :: es) s = relaxAll (p + 1) es (relax s p e) from rfl, ← ev]
    by_cases h : s.len.getD e.1 0 + e.2.2 < s.len.getD e.2.1 0
    · rw [show relax s p e = ⟨s.len.set e.2.1 (s.len.getD e.1 0 + e.2.2), s.last.set e.2.1 p, e.2.1⟩ from if_pos h]
      simp [m_shorten_1, g1, g2, h, g3, g4, -List.map_set, -List.getD_eq_getElem?_getD]
    · rw [show relax s p e = s from if_neg h]
      simp [m_shorten_1, g1, g2, h, -List.getD_eq_getElem?_getD]
theorem sh_ev {n : Nat} {es : List Edge} (s : BF) (hb : ∀ e ∈ es, e.1 ≤ n ∧ e.2.1 ≤ n) (hl : s.len.length = n + 1) (hla : s.last.length = n + 1) :
    m_shorten [.lst false (es.map tpD), .lst true (s.len.map D.int), .lst true (s.last.map D.int)] =
      some (.int (relaxAll 0 es { s with node := -1 }).node, [none, some (.lst true ((relaxAll 0 es { s with node := -1 }).len.map D.int)), some (.lst true ((relaxAll 0 es { s with node := -1 }).last.map D.int))]) := by
  obtain ⟨t4, t5, t6, t7, e⟩ := sh_loop (.lst false (es.map tpD)) n es 0 { s with node := -1 } none none none none hb hl hla
  simp [fnM_r, t_shorten_1, t_shorten_2, t_shorten_3, b_shorten, m_shorten, e]
end Lk17

/-! k17: the solver's rounds. -/
namespace Lk17
open PySem L2 MP
def bf (es : List Edge) : Nat → BF → Bool × BF
  | 0, s => (false, s)
  | k + 1, s => if (relaxAll 0 es { s with node := -1 }).node < 0 then (true, relaxAll 0 es { s with node := -1 }) else bf es k (relaxAll 0 es { s with node := -1 })
def pointD (n : Nat) (len : List Int) : D := .tup ((List.range n).map fun i => .int (-(len.getD i 0)))
theorem pt_loop (d0 d1 : D) (s3 s5 s6 s7 s8 s9 : Option D) (n : Nat) (len : List Int) (hl : len.length = n + 1) (hn : n ≤ 100) :
    lcGo [10] (gNm 10) tYs (mUn gNeg (oEx (mBin gIx (oNm 4) (oNm 10)))) (rngD 0 n) [some d0, some d1, some (.int n), s3, some (.lst true (len.map D.int)), s5, s6, s7, s8, s9, none] [] =
      some ((List.range n).map fun i => .int (-(len.getD i 0)), [some d0, some d1, some (.int n), s3, some (.lst true (len.map D.int)), s5, s6, s7, s8, s9, none]) := by
  obtain ⟨acc, st', e, rfl, rfl⟩ := lcGo_inv (own := [10]) (tg := gNm 10) (c := tYs) (el := mUn gNeg (oEx (mBin gIx (oNm 4) (oNm 10))))
    (fun i st acc => st = [some d0, some d1, some (.int n), s3, some (.lst true (len.map D.int)), s5, s6, s7, s8, s9, none] ∧ acc = (List.range i).map fun i => .int (-(len.getD i 0)))
    (rngD 0 n) 0 [some d0, some d1, some (.int n), s3, some (.lst true (len.map D.int)), s5, s6, s7, s8, s9, none] [] ⟨rfl, rfl⟩ (by
      rintro i d st acc hd ⟨rfl, rfl⟩
      obtain ⟨hi, rfl⟩ := rng_at hd
      have g := atI_map len i (by omega)
      refine ⟨_, true, _, rfl, rfl, (by simp), fun _ => ⟨.int (-(len.getD i 0)), [some d0, some d1, some (.int n), s3, some (.lst true (len.map D.int)), s5, s6, s7, s8, s9, some (.int i)], ?_, by simp; omega, by simp, ?_⟩⟩
      · simp [g, -List.getD_eq_getElem?_getD]
      · rw [Nat.zero_add, List.range_succ, List.map_append]; rfl)
  simpa using e
theorem so_loop (d0 d1 : D) (n : Nat) (es : List Edge) (hn : n ≤ 100) (hb : ∀ e ∈ es, e.1 ≤ n ∧ e.2.1 ≤ n) (s8 s9 : Option D) : ∀ (ds : List D) (s : BF) (o : Bool) (s7 : Option D), s.len.length = n + 1 → s.last.length = n + 1 → (∀ d ∈ ds, d.own = false) → ds ≠ [] →
    ∃ st', forGo (gNm 7) m_solve_all_1 ds [some d0, some d1, some (.int n), some (.lst o (es.map tpD)), some (.lst true (s.len.map D.int)), some (.lst true (s.last.map D.int)), some (.int s.node), s7, s8, s9, none] = some (bif (bf es ds.length s).1 then .rt (.tup [.str "point", pointD n (bf es ds.length s).2.len]) else .nx, st') ∧
      ((bf es ds.length s).1 = false → ∃ t7, st' = [some d0, some d1, some (.int n), some (.lst false (es.map tpD)), some (.lst true ((bf es ds.length s).2.len.map D.int)), some (.lst true ((bf es ds.length s).2.last.map D.int)), some (.int (bf es ds.length s).2.node), t7, s8, s9, none]) ∧ 2 ≤ st'.length
  | [], s, o, s7, hl, hla, ho, h => absurd rfl h
  | d :: ds, s, o, s7, hl, hla, ho, _ => by
    have e1 := sh_ev s hb hl hla
    have hl' := (relaxAll_len es 0 { s with node := -1 }).1.trans hl
    have hla' := (relaxAll_len es 0 { s with node := -1 }).2.trans hla
    have e2 : ∀ (s5 s6 s7 : Option D), _ := fun s5 s6 s7 => pt_loop d0 d1 (some (.lst false (es.map tpD))) s5 s6 s7 s8 s9 n (relaxAll 0 es { s with node := -1 }).len hl' hn
    have h1 : (-4611686018427387904 : Int) ≤ n ∧ (n : Int) < 4611686018427387904 := by omega
    have fz : D.fzs ((List.range n).map fun i => D.int (-((relaxAll 0 es { s with node := -1 }).len.getD i 0))) = ((List.range n).map fun i => D.int (-((relaxAll 0 es { s with node := -1 }).len.getD i 0))) := fzs_plain (plain_map _ (fun _ => rfl) _)
    have pl : plain ((List.range n).map fun i => D.int (-((relaxAll 0 es { s with node := -1 }).len.getD i 0))) = true := plain_map _ (fun _ => rfl) _
    by_cases hneg : (relaxAll 0 es { s with node := -1 }).node < 0
    · have eb : bf es (d :: ds).length s = (true, relaxAll 0 es { s with node := -1 }) := if_pos hneg
      rw [eb]
      refine ⟨[some d0, some d1, some (.int n), some (.lst false (es.map tpD)), some (.lst true ((relaxAll 0 es { s with node := -1 }).len.map D.int)), some (.lst true ((relaxAll 0 es { s with node := -1 }).last.map D.int)), some (.int (relaxAll 0 es { s with node := -1 }).node), some d, s8, s9, none], ?_, (fun h => by cases h), by simp⟩
      cases o <;> simp [m_solve_all_1, e1, hneg, h1, e2, fz, pl, pointD, -List.getD_eq_getElem?_getD]
    · have eb : bf es (d :: ds).length s = bf es ds.length (relaxAll 0 es { s with node := -1 }) := if_neg hneg
      rw [eb]
      have step : forGo (gNm 7) m_solve_all_1 (d :: ds) [some d0, some d1, some (.int n), some (.lst o (es.map tpD)), some (.lst true (s.len.map D.int)), some (.lst true (s.last.map D.int)), some (.int s.node), s7, s8, s9, none] =
          forGo (gNm 7) m_solve_all_1 ds [some d0, some d1, some (.int n), some (.lst false (es.map tpD)), some (.lst true ((relaxAll 0 es { s with node := -1 }).len.map D.int)), some (.lst true ((relaxAll 0 es { s with node := -1 }).last.map D.int)), some (.int (relaxAll 0 es { s with node := -1 }).node), some d, s8, s9, none] := by
        cases o <;> simp [m_solve_all_1, e1, hneg]
      rw [step]
      cases ds with
      | nil => exact ⟨_, rfl, (fun _ => ⟨some d, rfl⟩), by simp⟩
      | cons d2 ds2 => exact so_loop d0 d1 n es hn hb s8 s9 (d2 :: ds2) _ false (some d) hl' hla' (fun x hx => ho x (List.mem_cons_of_mem _ hx)) (by simp)
def bf0 (rs : List (Int × Int)) : BF := ⟨rs.map (fun r => -r.1) ++ [0], (List.range rs.length).map (fun (i : Nat) => 2 * (i : Int) + 1) ++ [-1], rs.length⟩
theorem so3_loop (d0 d1 : D) (s2 s3 : Option D) : ∀ (rs : List (Int × Int)) (acc : List Int), acc.length + rs.length ≤ 1000 →
    lcGo [8, 9] (gTp (gCo (gNm 8) (gCo (gNm 9) gNi))) tYs (mUn gNeg (oNm 8)) (rs.map prD) [some d0, some d1, s2, s3, none, none, none, none, none, none, none] (acc.map D.int) =
      some ((acc ++ rs.map (fun r => -r.1)).map D.int, [some d0, some d1, s2, s3, none, none, none, none, none, none, none])
  | [], acc, _ => by simp
  | r :: rs, acc, h => by
    have e := so3_loop d0 d1 s2 s3 rs (acc ++ [-r.1]) (by simp at h ⊢; omega)
    have h2 : acc.length < 16777216 := by simp at h; omega
    simp [h2]
    simpa using e
theorem so4_loop (d0 d1 : D) (n : Nat) (s3 s4 : Option D) (hn : n ≤ 100) : lcGo [10] (gNm 10) tYs (mBin gAdd (oEx (mFz (mBin gMul (oEx (mC (.int 2))) (oNm 10)))) (oEx (mC (.int 1)))) (rngD 0 n) [some d0, some d1, some (.int n), s3, s4, none, none, none, none, none, none] [] =
      some (((List.range n).map (fun (i : Nat) => 2 * (i : Int) + 1)).map D.int, [some d0, some d1, some (.int n), s3, s4, none, none, none, none, none, none]) := by
  obtain ⟨acc, st', e, rfl, rfl⟩ := lcGo_inv (own := [10]) (tg := gNm 10) (c := tYs) (el := (mBin gAdd (oEx (mFz (mBin gMul (oEx (mC (.int 2))) (oNm 10)))) (oEx (mC (.int 1)))))
    (fun i st acc => st = [some d0, some d1, some (.int n), s3, s4, none, none, none, none, none, none] ∧ acc = ((List.range i).map (fun (i : Nat) => 2 * (i : Int) + 1)).map D.int)
    (rngD 0 n) 0 [some d0, some d1, some (.int n), s3, s4, none, none, none, none, none, none] [] ⟨rfl, rfl⟩ (by
      rintro i d st acc hd ⟨rfl, rfl⟩
      obtain ⟨hi, rfl⟩ := rng_at hd
      refine ⟨_, true, _, rfl, rfl, (by simp), fun _ => ⟨.int (2 * (i : Int) + 1), [some d0, some d1, some (.int n), s3, s4, none, none, none, none, none, some (.int i)], ?_, by simp; omega, by simp, ?_⟩⟩
      · simp
      · rw [Nat.zero_add, List.range_succ, List.map_append, List.map_append]; rfl)
  simpa using e
def listed (rs : List (Int × Int)) (cs : List Edge) : List Edge := rangeE rs.length 0 rs ++ cs
theorem so_ev {d0 d1 : D} {rs : List (Int × Int)} {cs : List Edge} (h0 : IsSeq d0 (rs.map prD)) (h1 : IsSeq d1 (cs.map tpD)) (hl : rs.length ≤ 100) (hc : cs.length ≤ 100) (hb : ∀ e ∈ listed rs cs, e.1 ≤ rs.length ∧ e.2.1 ≤ rs.length) :
    ((bf (listed rs cs) (rs.length + 1) (bf0 rs)).1 = true → m_solve_all [d0, d1] = some (.tup [.str "point", pointD rs.length (bf (listed rs cs) (rs.length + 1) (bf0 rs)).2.len], [none, none])) ∧
    ((bf (listed rs cs) (rs.length + 1) (bf0 rs)).1 = false → ∀ cw, cw.own = false → m_closed_walk [.lst false ((listed rs cs).map tpD), .lst false ((bf (listed rs cs) (rs.length + 1) (bf0 rs)).2.last.map D.int), .int (bf (listed rs cs) (rs.length + 1) (bf0 rs)).2.node] = some (cw, [none, none, none]) →
      m_solve_all [d0, d1] = some (.tup [.str "cycle", cw], [none, none])) := by
  have e1 := rt_ev h0 hl
  have e3 := so3_loop d0 d1 (some (.int rs.length)) (some (.lst true ((listed rs cs).map tpD))) rs [] (by simp; omega)
  have e4 := so4_loop d0 d1 rs.length (some (.lst true ((listed rs cs).map tpD))) (some (.lst true ((bf0 rs).len.map D.int))) hl
  obtain ⟨st', e6, e7, e9⟩ := so_loop d0 d1 rs.length (listed rs cs) hl hb none none (rngD 0 (rs.length + 1)) (bf0 rs) true none (by simp [bf0]) (by simp [bf0]) (fun d hd => by
    obtain ⟨i, hi⟩ := List.mem_iff_getElem?.mp hd
    obtain ⟨_, rfl⟩ := rng_at hi
    rfl) (fun z => by have := congrArg List.length z; simp at this)
  rw [rng_len] at e6 e7
  have sz : (rangeE rs.length 0 rs).length + cs.length ≤ 16777216 := by rw [rangeE_len]; omega
  have a1 : t_solve_all_1 [some d0, some d1, none, none, none, none, none, none, none, none, none] = some (.nx, [some d0, some d1, some (.int rs.length), none, none, none, none, none, none, none, none]) := by
    rcases h0 with rfl | rfl <;> simp [t_solve_all_1]
  have a2 : t_solve_all_2 [some d0, some d1, some (.int rs.length), none, none, none, none, none, none, none, none] = some (.nx, [some d0, some d1, some (.int rs.length), some (.lst true ((listed rs cs).map tpD)), none, none, none, none, none, none, none]) := by
    rcases h0 with rfl | rfl <;> rcases h1 with rfl | rfl <;> simp [t_solve_all_2, e1, sz, listed]
  have a3 : t_solve_all_3 [some d0, some d1, some (.int rs.length), some (.lst true ((listed rs cs).map tpD)), none, none, none, none, none, none, none] = some (.nx, [some d0, some d1, some (.int rs.length), some (.lst true ((listed rs cs).map tpD)), some (.lst true ((bf0 rs).len.map D.int)), none, none, none, none, none, none]) := by
    have h2 : rs.length + 1 ≤ 16777216 := by omega
    simp only [List.map_nil, List.nil_append] at e3
    have fz : D.fzs (List.map D.int (rs.map fun r => -r.1)) = List.map D.int (rs.map fun r => -r.1) := fzs_int _
    have pl : plain (List.map D.int (rs.map fun r => -r.1)) = true := plain_int _
    rcases h0 with rfl | rfl <;> simp [t_solve_all_3, e3, h2, bf0, fz, pl, -List.map_map]
  have a4 : t_solve_all_4 [some d0, some d1, some (.int rs.length), some (.lst true ((listed rs cs).map tpD)), some (.lst true ((bf0 rs).len.map D.int)), none, none, none, none, none, none] = some (.nx, [some d0, some d1, some (.int rs.length), some (.lst true ((listed rs cs).map tpD)), some (.lst true ((bf0 rs).len.map D.int)), some (.lst true ((bf0 rs).last.map D.int)), none, none, none, none, none]) := by
    have h2 : rs.length + 1 ≤ 16777216 := by omega
    have h3 : (-4611686018427387904 : Int) ≤ rs.length ∧ (rs.length : Int) < 4611686018427387904 := by omega
    have fz : D.fzs (List.map D.int ((List.range rs.length).map fun (i : Nat) => 2 * (i : Int) + 1)) = List.map D.int ((List.range rs.length).map fun (i : Nat) => 2 * (i : Int) + 1) := fzs_int _
    have pl : plain (List.map D.int ((List.range rs.length).map fun (i : Nat) => 2 * (i : Int) + 1)) = true := plain_int _
    have ll : (bf0 rs).last = (List.range rs.length).map (fun (i : Nat) => 2 * (i : Int) + 1) ++ [-1] := rfl
    rw [ll]
    simp [t_solve_all_4, e4, h2, h3, fz, pl, -List.map_map]
  have a5 : t_solve_all_5 [some d0, some d1, some (.int rs.length), some (.lst true ((listed rs cs).map tpD)), some (.lst true ((bf0 rs).len.map D.int)), some (.lst true ((bf0 rs).last.map D.int)), none, none, none, none, none] = some (.nx, [some d0, some d1, some (.int rs.length), some (.lst true ((listed rs cs).map tpD)), some (.lst true ((bf0 rs).len.map D.int)), some (.lst true ((bf0 rs).last.map D.int)), some (.int (bf0 rs).node), none, none, none, none]) := by
    simp [t_solve_all_5, bf0]
  have a6 : t_solve_all_6 [some d0, some d1, some (.int rs.length), some (.lst true ((listed rs cs).map tpD)), some (.lst true ((bf0 rs).len.map D.int)), some (.lst true ((bf0 rs).last.map D.int)), some (.int (bf0 rs).node), none, none, none, none] = some (bif (bf (listed rs cs) (rs.length + 1) (bf0 rs)).1 then .rt (.tup [.str "point", pointD rs.length (bf (listed rs cs) (rs.length + 1) (bf0 rs)).2.len]) else .nx, st') := by
    have h3 : (-4611686018427387904 : Int) ≤ (rs.length : Int) + 1 ∧ (rs.length : Int) + 1 < 4611686018427387904 := by omega
    have h4 : ((rs.length : Int) + 1).toNat = rs.length + 1 := by omega
    rw [← e6]
    simp [t_solve_all_6, h3, h4]
  rw [m_solve_all, fnM_r, b_solve_all]
  have pre : ([d0, d1].map some ++ List.replicate (11 - [d0, d1].length) none) = [some d0, some d1, none, none, none, none, none, none, none, none, none] := rfl
  rw [pre]
  refine ⟨fun hp => ?_, fun hp cw ho hcw => ?_⟩
  · rw [hp] at a6
    rw [mSq_r, a1, sq_nx, mSq_r, a2, sq_nx, mSq_r, a3, sq_nx, mSq_r, a4, sq_nx, mSq_r, a5, sq_nx, mSq_r, a6]
    simp only [cond_true, sq_rt, fn_rt]
    match st', e9 with
    | [], z => simp at z
    | [_], z => simp at z
    | _ :: _ :: _, _ => rfl
  · rw [hp] at a6
    obtain ⟨t7, rfl⟩ := e7 hp
    rw [mSq_r, a1, sq_nx, mSq_r, a2, sq_nx, mSq_r, a3, sq_nx, mSq_r, a4, sq_nx, mSq_r, a5, sq_nx, mSq_r, a6]
    have e8 : cw.fz = cw := D.fz_of ho
    simp [t_solve_all_7, hcw, e8]
end Lk17

/-! k17: the plain law of shortest walks. -/
namespace Lk17
def BF.L (s : BF) (v : Nat) : Int := s.len.getD v 0
def BF.P (s : BF) (v : Nat) : Int := s.last.getD v 0
def Fea (es : List Edge) (n : Nat) (y : Nat → Int) : Prop := y n = 0 ∧ ∀ (j : Nat) u v c, es[j]? = some (u, v, c) → y v ≤ y u + c
structure Inv (es : List Edge) (n k p : Nat) (s : BF) (T R : Nat → Nat) (t : Nat) : Prop where
  l1 : s.len.length = n + 1
  l2 : s.last.length = n + 1
  tm : ∀ v, T v < t
  rk : ∀ v, R v ≤ k
  rt : ∀ v, 0 < R v → 0 < T v
  pr : ∀ v, v ≤ n → (v = n ∧ R v = 0) ∨ ∃ j u c, s.P v = (j : Nat) ∧ es[j]? = some (u, v, c) ∧ s.L u + c ≤ s.L v ∧ (T v ≤ T u → 0 < T u → s.L u + c < s.L v) ∧ R v ≤ R u + 1
  ed : ∀ (j : Nat) u v c, es[j]? = some (u, v, c) → (j < p → s.L v ≤ s.L u + c ∨ R u = k) ∧ (p ≤ j → s.L v ≤ s.L u + c ∨ k ≤ R u + 1)
  fe : ∀ y, Fea es n y → ∀ v, v ≤ n → y v ≤ s.L v
  nd : (s.node < 0 ∧ ∀ v, R v < k) ∨ ∃ v, v ≤ n ∧ s.node = (v : Nat) ∧ R v = k
  tp : s.L n ≤ 0
theorem getD_set_ne (l : List Int) {a b : Nat} (x : Int) (h : a ≠ b) : (l.set a x).getD b 0 = l.getD b 0 := by
  simp [List.getD, List.getElem?_set_ne h]
theorem getD_set_eq (l : List Int) {a : Nat} (x : Int) (h : a < l.length) : (l.set a x).getD a 0 = x := by
  simp [List.getD, List.getElem?_set_self h]
variable {es : List Edge} {n k p t : Nat} {s : BF} {T R : Nat → Nat}
theorem Inv.step (hb : ∀ e ∈ es, e.1 ≤ n ∧ e.2.1 ≤ n) {k p : Nat} {s : BF} {T R : Nat → Nat} {t : Nat} (I : Inv es n k p s T R t) {e : Edge} (he : es[p]? = some e) : ∃ T' R' t', Inv es n k (p + 1) (relax s p e) T' R' t' := by
  obtain ⟨a, b, c⟩ := e
  obtain ⟨ha, hb'⟩ := hb (a, b, c) (List.mem_of_getElem? he)
  have ha : a ≤ n := ha
  have hb' : b ≤ n := hb'
  by_cases h : s.L a + c < s.L b
  · have er : relax s p (a, b, c) = ⟨s.len.set b (s.L a + c), s.last.set b p, b⟩ := if_pos h
    rw [er]
    have Lb : (BF.mk (s.len.set b (s.L a + c)) (s.last.set b p) b).L b = s.L a + c := getD_set_eq _ _ (by rw [I.l1]; omega)
    have Ln : ∀ v, v ≠ b → (BF.mk (s.len.set b (s.L a + c)) (s.last.set b p) b).L v = s.L v := fun v hv => getD_set_ne _ _ (Ne.symm hv)
    have Pb : (BF.mk (s.len.set b (s.L a + c)) (s.last.set b p) b).P b = p := getD_set_eq _ _ (by rw [I.l2]; omega)
    have Pn : ∀ v, v ≠ b → (BF.mk (s.len.set b (s.L a + c)) (s.last.set b p) b).P v = s.P v := fun v hv => getD_set_ne _ _ (Ne.symm hv)
    have Lle : ∀ v, (BF.mk (s.len.set b (s.L a + c)) (s.last.set b p) b).L v ≤ s.L v := fun v => by
      by_cases hv : v = b
      · subst hv; rw [Lb]; omega
      · rw [Ln v hv]; exact Int.le_refl _
    have n1 : (BF.mk (s.len.set b (s.L a + c)) (s.last.set b p) b).len.length = n + 1 := by simp [I.l1]
    have n2 : (BF.mk (s.len.set b (s.L a + c)) (s.last.set b p) b).last.length = n + 1 := by simp [I.l2]
    have n3 : (BF.mk (s.len.set b (s.L a + c)) (s.last.set b p) b).node = (b : Nat) := rfl
    generalize BF.mk (s.len.set b (s.L a + c)) (s.last.set b p) b = s' at *
    have hRa : k ≤ R a + 1 := by
      rcases (I.ed p a b c he).2 (Nat.le_refl _) with q | q
      · omega
      · exact q
    refine ⟨fun v => if v = b then t else T v, fun v => if v = b then k else R v, t + 1, n1, n2, fun v => ?_, fun v => ?_, fun v hv => ?_, fun v hv => ?_, fun j u v c' hj => ?_, fun y hy v hv => ?_, .inr ⟨b, hb', n3, if_pos rfl⟩, Int.le_trans (Lle n) I.tp⟩
    · have := I.tm v
      split <;> omega
    · have := I.rk v
      split <;> omega
    · have := I.rt v
      have := I.tm b
      by_cases h1 : v = b
      · simp only [h1, if_true]; omega
      · simp only [h1, if_false] at hv ⊢; omega
    · by_cases h1 : v = b
      · subst h1
        refine .inr ⟨p, a, c, Pb, he, ?_⟩
        by_cases h2 : a = v
        · subst h2
          simp only [if_true]
          refine ⟨?_, fun _ _ => ?_, ?_⟩ <;> first | omega | (rw [Lb]; omega)
        · simp only [h2, if_false, if_true]
          rw [Lb, Ln a h2]
          have := I.tm a
          exact ⟨Int.le_refl _, fun q => by omega, by omega⟩
      · rcases I.pr v hv with ⟨e1, e2⟩ | ⟨j, u, c', e1, e2, e3, e4, e5⟩
        · exact .inl ⟨e1, by simp only [h1, if_false]; exact e2⟩
        · refine .inr ⟨j, u, c', by rw [Pn v h1]; exact e1, e2, ?_⟩
          rw [Ln v h1]
          by_cases h2 : u = b
          · subst h2
            simp only [h1, if_false, if_true]
            rw [Lb]
            have := I.rk v
            exact ⟨by omega, fun _ _ => by omega, by omega⟩
          · simp only [h1, h2, if_false]
            rw [Ln u h2]
            exact ⟨e3, e4, e5⟩
    · by_cases h2 : u = b
      · simp only [h2, if_true]
        exact ⟨fun _ => .inr trivial, fun _ => .inr (by omega)⟩
      · simp only [h2, if_false]
        have le := Lle v
        rw [Ln u h2]
        obtain ⟨q1, q2⟩ := I.ed j u v c' hj
        refine ⟨fun hlt => ?_, fun hle => ?_⟩
        · by_cases hjp : j = p
          · subst hjp
            rw [he] at hj
            cases hj
            exact .inl (by rw [Lb]; exact Int.le_refl _)
          · rcases q1 (by omega) with q | q
            · exact .inl (by omega)
            · exact .inr q
        · rcases q2 (by omega) with q | q
          · exact .inl (by omega)
          · exact .inr q
    · by_cases h1 : v = b
      · subst h1
        have q1 := hy.2 p a v c he
        have q2 := I.fe y hy a ha
        rw [Lb]
        omega
      · rw [Ln v h1]
        exact I.fe y hy v hv
  · have er : relax s p (a, b, c) = s := if_neg h
    rw [er]
    refine ⟨T, R, t, I.l1, I.l2, I.tm, I.rk, I.rt, I.pr, fun j u v c' hj => ⟨fun hlt => ?_, fun hle => (I.ed j u v c' hj).2 (by omega)⟩, I.fe, I.nd, I.tp⟩
    by_cases hjp : j = p
    · subst hjp
      rw [he] at hj
      cases hj
      exact .inl (by omega)
    · exact (I.ed j u v c' hj).1 (by omega)
theorem Inv.all (hb : ∀ e ∈ es, e.1 ≤ n ∧ e.2.1 ≤ n) {k : Nat} : ∀ (r : List Edge) (p : Nat) (s : BF) (T R : Nat → Nat) (t : Nat), es.drop p = r → Inv es n k p s T R t → ∃ T' R' t', Inv es n k es.length (relaxAll p r s) T' R' t'
  | [], p, s, T, R, t, hd, I => by
    have hp : es.length ≤ p := List.drop_eq_nil_iff.mp hd
    refine ⟨T, R, t, I.l1, I.l2, I.tm, I.rk, I.rt, I.pr, fun j u v c hj => ?_, I.fe, I.nd, I.tp⟩
    have hjl : j < es.length := (List.getElem?_eq_some_iff.mp hj).1
    exact ⟨fun _ => (I.ed j u v c hj).1 (by omega), fun q => by omega⟩
  | e :: r, p, s, T, R, t, hd, I => by
    have hp : p < es.length := by
      rcases Nat.lt_or_ge p es.length with q | q
      · exact q
      · rw [List.drop_eq_nil_iff.mpr q] at hd; cases hd
    rw [List.drop_eq_getElem_cons hp] at hd
    obtain ⟨e1, e2⟩ := List.cons.inj hd
    obtain ⟨T', R', t', I'⟩ := I.step hb (e := e) (by rw [List.getElem?_eq_getElem hp, e1])
    exact Inv.all hb r (p + 1) _ T' R' t' e2 I'
theorem Inv.round (I : Inv es n k es.length s T R t) : Inv es n (k + 1) 0 { s with node := -1 } T R t where
  l1 := I.l1
  l2 := I.l2
  tm := I.tm
  rk := fun v => by have := I.rk v; omega
  rt := I.rt
  pr := I.pr
  ed := fun j u v c hj => ⟨fun q => by omega, fun _ => by
    rcases (I.ed j u v c hj).1 (List.getElem?_eq_some_iff.mp hj).1 with q | q
    · exact .inl q
    · exact .inr (by omega)⟩
  fe := I.fe
  nd := .inl ⟨by show (-1 : Int) < 0; decide, fun v => by have := I.rk v; omega⟩
  tp := I.tp
/-- all edges hold -/
def Done (es : List Edge) (n : Nat) (s : BF) : Prop := s.len.length = n + 1 ∧ (∀ (j : Nat) u v c, es[j]? = some (u, v, c) → s.L v ≤ s.L u + c) ∧ (∀ y, Fea es n y → ∀ v, v ≤ n → y v ≤ s.L v) ∧ s.L n ≤ 0
theorem bf_ok (hb : ∀ e ∈ es, e.1 ≤ n ∧ e.2.1 ≤ n) : ∀ (j k : Nat) (s : BF) (T R : Nat → Nat) (t : Nat), Inv es n k 0 { s with node := -1 } T R t →
    ((bf es j s).1 = true → Done es n (bf es j s).2) ∧ ((bf es j s).1 = false → 0 < j → ∃ T' R' t', Inv es n (k + j - 1) es.length (bf es j s).2 T' R' t' ∧ ¬ (bf es j s).2.node < 0)
  | 0, k, s, T, R, t, I => ⟨(fun h => by cases h), (fun _ h => by omega)⟩
  | j + 1, k, s, T, R, t, I => by
    obtain ⟨T', R', t', I'⟩ := Inv.all hb es 0 _ T R t rfl I
    by_cases hneg : (relaxAll 0 es { s with node := -1 }).node < 0
    · have eb : bf es (j + 1) s = (true, relaxAll 0 es { s with node := -1 }) := if_pos hneg
      rw [eb]
      refine ⟨fun _ => ⟨I'.l1, fun i u v c hi => ?_, I'.fe, I'.tp⟩, fun h => by cases h⟩
      rcases (I'.ed i u v c hi).1 (List.getElem?_eq_some_iff.mp hi).1 with q | q
      · exact q
      · rcases I'.nd with ⟨_, z⟩ | ⟨w, _, z, _⟩
        · have := z u; omega
        · rw [z] at hneg; omega
    · have eb : bf es (j + 1) s = bf es j (relaxAll 0 es { s with node := -1 }) := if_neg hneg
      rw [eb]
      obtain ⟨h1, h2⟩ := bf_ok hb j (k + 1) _ T' R' t' I'.round
      refine ⟨h1, fun hf _ => ?_⟩
      cases j with
      | zero => exact ⟨T', R', t', by rw [show k + (0 + 1) - 1 = k by omega]; exact I', hneg⟩
      | succ j =>
        obtain ⟨T2, R2, t2, I2, q⟩ := h2 hf (by omega)
        exact ⟨T2, R2, t2, by rw [show k + (j + 1 + 1) - 1 = k + 1 + (j + 1) - 1 by omega]; exact I2, q⟩
/-! ### the chain of last steps -/
/-- the node from where v's length comes -/
def back (es : List Edge) (s : BF) (v : Nat) : Nat := (es.getD (s.P v).toNat (0, 0, 0)).1
def wt (es : List Edge) (s : BF) (v : Nat) : Int := (es.getD (s.P v).toNat (0, 0, 0)).2.2
def chain (es : List Edge) (s : BF) (v : Nat) : Nat → Nat
  | 0 => v
  | j + 1 => back es s (chain es s v j)
theorem chain_add (s : BF) (v i : Nat) : ∀ j, chain es s v (i + j) = chain es s (chain es s v i) j
  | 0 => rfl
  | j + 1 => by
    show back es s (chain es s v (i + j)) = back es s (chain es s (chain es s v i) j)
    rw [chain_add s v i j]
theorem Inv.back (hb : ∀ e ∈ es, e.1 ≤ n ∧ e.2.1 ≤ n) (I : Inv es n k p s T R t) {v : Nat} (hv : v ≤ n) (hr : 0 < R v) : ∃ j : Nat, s.P v = j ∧ es[j]? = some (back es s v, v, wt es s v) ∧ back es s v ≤ n ∧ s.L (back es s v) + wt es s v ≤ s.L v ∧ (T v ≤ T (back es s v) → 0 < T (back es s v) → s.L (back es s v) + wt es s v < s.L v) ∧ R v ≤ R (back es s v) + 1 := by
  rcases I.pr v hv with ⟨_, z⟩ | ⟨j, u, c, e1, e2, e3, e4, e5⟩
  · omega
  · have eg : es.getD (s.P v).toNat (0, 0, 0) = (u, v, c) := by rw [e1]; simp [List.getD, e2]
    have eu : Lk17.back es s v = u := by unfold Lk17.back; rw [eg]
    have ew : wt es s v = c := by unfold wt; rw [eg]
    rw [eu, ew]
    exact ⟨j, e1, e2, (hb _ (List.mem_of_getElem? e2)).1, e3, e4, e5⟩
/-- so many steps back every node was reached in a round -/
theorem Inv.chain (hb : ∀ e ∈ es, e.1 ≤ n ∧ e.2.1 ≤ n) (I : Inv es n k p s T R t) {v : Nat} (hv : v ≤ n) (hr : k = R v) : ∀ j, j ≤ k → chain es s v j ≤ n ∧ k ≤ R (chain es s v j) + j
  | 0, _ => ⟨hv, by rw [hr]; exact Nat.le_refl _⟩
  | j + 1, hj => by
    obtain ⟨h1, h2⟩ := Inv.chain hb I hv hr j (by omega)
    obtain ⟨i, _, _, h3, _, _, h4⟩ := I.back hb h1 (by omega)
    exact ⟨h3, by show k ≤ R (Lk17.back es s (Lk17.chain es s v j)) + (j + 1); omega⟩
def sumW (es : List Edge) (s : BF) (v : Nat) : Nat → Int
  | 0 => 0
  | j + 1 => sumW es s v j + wt es s (chain es s v j)
theorem Inv.sum (hb : ∀ e ∈ es, e.1 ≤ n ∧ e.2.1 ≤ n) (I : Inv es n k p s T R t) {v : Nat} (hv : v ≤ n) : ∀ q, (∀ j, j ≤ q → Lk17.chain es s v j ≤ n ∧ 0 < R (Lk17.chain es s v j)) →
    s.L (Lk17.chain es s v q) + sumW es s v q ≤ s.L v ∧ (s.L (Lk17.chain es s v q) + sumW es s v q < s.L v ∨ (q = 0 ∨ T (Lk17.chain es s v q) < T v))
  | 0, _ => ⟨by show s.L v + 0 ≤ s.L v; omega, .inr (.inl rfl)⟩
  | q + 1, h => by
    obtain ⟨h1, h2⟩ := Inv.sum hb I hv q fun j hj => h j (by omega)
    obtain ⟨c1, c2⟩ := h q (by omega)
    obtain ⟨d1, d2⟩ := h (q + 1) (Nat.le_refl _)
    obtain ⟨i, _, _, _, h3, h4, _⟩ := I.back hb c1 c2
    have d3 := I.rt _ d2
    have e : Lk17.chain es s v (q + 1) = Lk17.back es s (Lk17.chain es s v q) := rfl
    have e2 : sumW es s v (q + 1) = sumW es s v q + wt es s (Lk17.chain es s v q) := rfl
    rw [← e] at h3 h4
    rw [e2]
    refine ⟨by omega, ?_⟩
    by_cases hT : T (Lk17.chain es s v q) ≤ T (Lk17.chain es s v (q + 1))
    · have := h4 hT d3
      exact .inl (by omega)
    · rcases h2 with h2 | h2 | h2
      · exact .inl (by omega)
      · subst h2
        exact .inr (.inr (by show T (Lk17.chain es s v (0 + 1)) < T v; have : Lk17.chain es s v 0 = v := rfl; rw [this] at hT; omega))
      · exact .inr (.inr (by omega))
/-- a closed walk costs less than nothing -/
theorem Inv.neg (hb : ∀ e ∈ es, e.1 ≤ n ∧ e.2.1 ≤ n) (I : Inv es n k p s T R t) {v q : Nat} (hv : v ≤ n) (hc : ∀ j, j ≤ q + 1 → Lk17.chain es s v j ≤ n ∧ 0 < R (Lk17.chain es s v j)) (he : Lk17.chain es s v (q + 1) = v) : sumW es s v (q + 1) < 0 := by
  obtain ⟨h1, h2⟩ := Inv.sum hb I hv (q + 1) hc
  rw [he] at h1 h2
  rcases h2 with h2 | h2 | h2 <;> omega
/-- .. so there is no solution -/
theorem Inv.nofea (hb : ∀ e ∈ es, e.1 ≤ n ∧ e.2.1 ≤ n) (I : Inv es n k p s T R t) {v q : Nat} (hv : v ≤ n) (hc : ∀ j, j ≤ q + 1 → Lk17.chain es s v j ≤ n ∧ 0 < R (Lk17.chain es s v j)) (he : Lk17.chain es s v (q + 1) = v) (y : Nat → Int) (hy : Fea es n y) : False := by
  have hn := Inv.neg hb I hv hc he
  have key : ∀ j, j ≤ q + 1 → y v ≤ y (Lk17.chain es s v j) + sumW es s v j := by
    intro j
    induction j with
    | zero => intro _; show y v ≤ y v + 0; omega
    | succ j ih =>
      intro hj
      have h1 := ih (by omega)
      obtain ⟨c1, c2⟩ := hc j (by omega)
      obtain ⟨i, _, h2, _⟩ := I.back hb c1 c2
      have h3 := hy.2 i _ _ _ h2
      show y v ≤ y (Lk17.back es s (Lk17.chain es s v j)) + (sumW es s v j + wt es s (Lk17.chain es s v j))
      omega
  have := key (q + 1) (Nat.le_refl _)
  rw [he] at this
  omega
end Lk17

/-! k17: the closed walk. -/
namespace Lk17
open PySem L2 MP
theorem php : ∀ (n : Nat) (l : List Nat), l.Nodup → (∀ x ∈ l, x < n) → l.length ≤ n
  | 0, l, _, h => by
    cases l with
    | nil => exact Nat.le_refl _
    | cons a l => exact absurd (h a List.mem_cons_self) (Nat.not_lt_zero _)
  | n + 1, l, nd, h => by
    by_cases hn : n ∈ l
    · have h1 := php n (l.erase n) (nd.erase n) fun x hx => by
        have := (nd.mem_erase_iff).mp hx
        have := h x this.2
        omega
      rw [List.length_erase_of_mem hn] at h1
      omega
    · have := php n l nd fun x hx => by
        have h2 := h x hx
        have : x ≠ n := fun z => hn (z ▸ hx)
        omega
      omega
theorem nodup_rng {α : Type} (f : Nat → α) : ∀ i, (∀ a b, a < b → b < i → f a ≠ f b) → ((List.range i).map f).Nodup
  | 0, _ => by simp
  | i + 1, h => by
    rw [List.range_succ, List.map_append, List.nodup_append]
    refine ⟨nodup_rng f i fun a b h1 h2 => h a b h1 (by omega), by simp, fun a ha b hb => ?_⟩
    obtain ⟨j, hj, rfl⟩ := List.mem_map.mp ha
    have : b = f i := by simpa using hb
    subst this
    exact h j i (List.mem_range.mp hj) (by omega)
theorem lookD_some : ∀ (ks : List Key) (ds : List D) (k : Key), ks.length = ds.length → ((lookD ks ds k).isSome = true ↔ k ∈ ks)
  | [], _, k, _ => by simp [lookD]
  | a :: ks, [], k, h => by simp at h
  | a :: ks, d :: ds, k, h => by
    have e : lookD (a :: ks) (d :: ds) k = if a = k then some d else lookD ks ds k := rfl
    rw [e]
    by_cases ha : a = k
    · simp [ha]
    · rw [if_neg ha, lookD_some ks ds k (by simpa using h), List.mem_cons]
      exact ⟨.inr, fun q => q.resolve_left (Ne.symm ha)⟩
theorem cIn_dic {ks : List Key} {ds : List D} {i : Int} (h : ks.length = ds.length) (m : (.inl i : Key) ∈ ks) (o : Bool) : cIn (.int i) (.dic o ks ds) = some true := by
  show some (lookD ks ds (.inl i)).isSome = _
  rw [(lookD_some ks ds _ h).mpr m]
theorem cIn_dicN {ks : List Key} {ds : List D} {i : Int} (h : ks.length = ds.length) (m : (.inl i : Key) ∉ ks) (o : Bool) : cIn (.int i) (.dic o ks ds) = some false := by
  show some (lookD ks ds (.inl i)).isSome = _
  cases q : (lookD ks ds (.inl i)).isSome with
  | false => rfl
  | true => exact absurd ((lookD_some ks ds _ h).mp q) m
theorem putD_new : ∀ (ks : List Key) (ds : List D) (k : Key) (y : D), ks.length = ds.length → k ∉ ks → putD ks ds k y = (ks ++ [k], ds ++ [y])
  | [], [], k, y, _, _ => rfl
  | [], d :: ds, k, y, h, _ => by simp at h
  | a :: ks, [], k, y, h, _ => by simp at h
  | a :: ks, d :: ds, k, y, h, hk => by
    have e : putD (a :: ks) (d :: ds) k y = if a = k then (a :: ks, y :: ds) else (a :: (putD ks ds k y).1, d :: (putD ks ds k y).2) := rfl
    have h1 : ¬ a = k := fun z => hk (by rw [z]; exact List.mem_cons_self)
    rw [e, if_neg h1, putD_new ks ds k y (by simpa using h) fun z => hk (List.mem_cons_of_mem _ z)]
    rfl
theorem rangeE_at (n : Nat) : ∀ (i : Nat) (rs : List (Int × Int)) (v : Nat), (rangeE n i rs)[2 * v + 1]? = (rs[v]?).map fun r => (n, i + v, -r.1)
  | i, [], v => by simp [rangeE]
  | i, r :: rs, 0 => by simp [rangeE]
  | i, r :: rs, v + 1 => by
    have e : (rangeE n i (r :: rs))[2 * (v + 1) + 1]? = (rangeE n (i + 1) rs)[2 * v + 1]? := by
      show ((i, n, r.2) :: (n, i, -r.1) :: rangeE n (i + 1) rs)[2 * v + 1 + 1 + 1]? = _
      simp
    rw [e, rangeE_at n (i + 1) rs v]
    simp [Nat.add_assoc, Nat.add_comm 1 v]
theorem listed_at {rs : List (Int × Int)} {cs : List Edge} {v : Nat} (h : v < rs.length) : (listed rs cs)[2 * v + 1]? = some (rs.length, v, -rs[v].1) := by
  unfold listed
  rw [List.getElem?_append_left (by rw [rangeE_len]; omega), rangeE_at, List.getElem?_eq_getElem h]
  simp
theorem bf0_L {rs : List (Int × Int)} {v : Nat} (h : v < rs.length) : (bf0 rs).L v = -rs[v].1 := by
  show (rs.map (fun (r : Int × Int) => -r.1) ++ [0]).getD v 0 = _
  simp [List.getD, List.getElem?_append_left, h]
theorem bf0_Ln {rs : List (Int × Int)} : (bf0 rs).L rs.length = 0 := by
  show (rs.map (fun (r : Int × Int) => -r.1) ++ [0]).getD rs.length 0 = _
  simp [List.getD]
theorem bf0_P {rs : List (Int × Int)} {v : Nat} (h : v < rs.length) : (bf0 rs).P v = ((2 * v + 1 : Nat) : Int) := by
  show ((List.range rs.length).map (fun (i : Nat) => 2 * (i : Int) + 1) ++ [-1]).getD v 0 = _
  simp [List.getD, List.getElem?_append_left, h]
theorem init (rs : List (Int × Int)) (cs : List Edge) : Inv (listed rs cs) rs.length 1 0 { bf0 rs with node := -1 } (fun _ => 0) (fun _ => 0) 1 where
  l1 := by simp [bf0]
  l2 := by simp [bf0]
  tm := fun _ => by omega
  rk := fun _ => by omega
  rt := fun _ h => by omega
  pr := fun v hv => by
    by_cases h : v < rs.length
    · refine .inr ⟨2 * v + 1, rs.length, -rs[v].1, bf0_P h, listed_at h, ?_, fun _ q => by omega, by omega⟩
      have e1 : ({ bf0 rs with node := -1 } : BF).L v = (bf0 rs).L v := rfl
      have e2 : ({ bf0 rs with node := -1 } : BF).L rs.length = (bf0 rs).L rs.length := rfl
      rw [e1, e2, bf0_L h, bf0_Ln]
      omega
    · exact .inl ⟨by omega, rfl⟩
  ed := fun j u v c _ => ⟨fun q => by omega, fun _ => .inr (by omega)⟩
  fe := fun y hy v hv => by
    have e1 : ({ bf0 rs with node := -1 } : BF).L v = (bf0 rs).L v := rfl
    rw [e1]
    by_cases h : v < rs.length
    · have := hy.2 (2 * v + 1) _ _ _ (listed_at (cs := cs) h)
      rw [bf0_L h]
      have := hy.1
      omega
    · have e : v = rs.length := by omega
      rw [e, bf0_Ln, hy.1]
      exact Int.le_refl _
  nd := .inl ⟨by show (-1 : Int) < 0; decide, fun _ => by omega⟩
  tp := by
    have e2 : ({ bf0 rs with node := -1 } : BF).L rs.length = (bf0 rs).L rs.length := rfl
    rw [e2, bf0_Ln]
    exact Int.le_refl _
section
variable {es : List Edge} {n k p t : Nat} {s : BF} {T R : Nat → Nat}
theorem P_at (I : Inv es n k p s T R t) {v : Nat} (hv : v ≤ n) : free (atI (s.last.map D.int) (v : Int)) = some (.int (s.P v)) := atI_map s.last v (by rw [I.l2]; omega)
theorem es_at {j : Nat} {e : Edge} (h : es[j]? = some e) : free (atI (es.map tpD) (j : Int)) = some (tpD e) := by
  simp [atI_n, h]
def ksOf (x : Nat → Nat) (i : Nat) : List Key := (List.range i).map fun j => .inl (x j : Int)
theorem w1_loop (hb : ∀ e ∈ es, e.1 ≤ n ∧ e.2.1 ≤ n) (hn : n ≤ 100) (I : Inv es n k p s T R t) {v : Nat} (hv : v ≤ n) (hr : k = R v) (hk : k = n + 1) : ∀ (d i f : Nat), i + d = n + 1 → d + 2 ≤ f → (∀ a b, a < b → b < i → chain es s v a ≠ chain es s v b) →
    ∃ S r dd, r < S ∧ S ≤ n + 1 ∧ chain es s v S = chain es s v r ∧ whGo (tOf (mBin (liftB cNi) (oNm 2) (oNm 3))) m_closed_walk_1 f [some (.lst false (es.map tpD)), some (.lst false (s.last.map D.int)), some (.int (chain es s v i)), some (.dic true (ksOf (chain es s v) i) (List.replicate i (.bl true))), none] =
      some (.nx, [some (.lst false (es.map tpD)), some (.lst false (s.last.map D.int)), some (.int (chain es s v S)), some dd, none]) := by
  intro d
  induction d with
  | zero =>
    intro i f hi hf hdis
    obtain ⟨f, rfl⟩ : ∃ f', f = f' + 1 := ⟨f - 1, by omega⟩
    have nd := nodup_rng (fun a => chain es s v a) i hdis
    have hin : ∃ r, r < i ∧ chain es s v i = chain es s v r := by
      apply Classical.byContradiction
      intro hno
      have nd2 := nodup_rng (fun a => chain es s v a) (i + 1) fun a b h1 h2 z => by
        by_cases hb : b < i
        · exact hdis a b h1 hb z
        · have : b = i := by omega
          subst this
          exact hno ⟨a, h1, z.symm⟩
      have := php (n + 1) _ nd2 fun x hx => by
        obtain ⟨j, hj, rfl⟩ := List.mem_map.mp hx
        have := (I.chain hb hv hr j (by have := List.mem_range.mp hj; omega)).1
        omega
      simp at this
      omega
    obtain ⟨r, h1, h2⟩ := hin
    refine ⟨i, r, .dic true (ksOf (chain es s v) i) (List.replicate i (.bl true)), h1, by omega, h2, ?_⟩
    refine whGo_stop ?_
    have m : (Sum.inl (chain es s v i : Int) : Key) ∈ ksOf (chain es s v) i := List.mem_map.mpr ⟨r, List.mem_range.mpr h1, by rw [h2]⟩
    have lk : cIn (.int (chain es s v i)) (.dic true (ksOf (chain es s v) i) (List.replicate i (.bl true))) = some true := cIn_dic (by simp [ksOf]) m true
    simp [lk]
  | succ d ih =>
    intro i f hi hf hdis
    obtain ⟨f, rfl⟩ : ∃ f', f = f' + 1 := ⟨f - 1, by omega⟩
    by_cases hin : ∃ r, r < i ∧ chain es s v i = chain es s v r
    · obtain ⟨r, h1, h2⟩ := hin
      refine ⟨i, r, .dic true (ksOf (chain es s v) i) (List.replicate i (.bl true)), h1, by omega, h2, ?_⟩
      refine whGo_stop ?_
      have m : (Sum.inl (chain es s v i : Int) : Key) ∈ ksOf (chain es s v) i := List.mem_map.mpr ⟨r, List.mem_range.mpr h1, by rw [h2]⟩
      have lk : cIn (.int (chain es s v i)) (.dic true (ksOf (chain es s v) i) (List.replicate i (.bl true))) = some true := cIn_dic (by simp [ksOf]) m true
      simp [lk]
    · have m : (Sum.inl (chain es s v i : Int) : Key) ∉ ksOf (chain es s v) i := fun z => by
        obtain ⟨r, hr1, hr2⟩ := List.mem_map.mp z
        exact hin ⟨r, List.mem_range.mp hr1, by have := Sum.inl.inj hr2; omega⟩
      have lk : cIn (.int (chain es s v i)) (.dic true (ksOf (chain es s v) i) (List.replicate i (.bl true))) = some false := cIn_dicN (by simp [ksOf]) m true
      obtain ⟨c1, c2⟩ := I.chain hb hv hr i (by omega)
      obtain ⟨j, b1, b2, b3, _⟩ := I.back hb c1 (by omega)
      have g1 := P_at I c1
      rw [b1] at g1
      have g2 := es_at b2
      obtain ⟨S, r, dd, h1, h2, h3, e⟩ := ih (i + 1) f (by omega) (by omega) fun a b h1 h2 z => by
        by_cases hbi : b < i
        · exact hdis a b h1 hbi z
        · have : b = i := by omega
          subst this
          exact hin ⟨a, h1, z.symm⟩
      refine ⟨S, r, dd, h1, h2, h3, ?_⟩
      rw [← e]
      have gp : gPut (.dic true (ksOf (chain es s v) i) (List.replicate i (.bl true))) (.int (chain es s v i)) (.bl true) = some (.dic true (ksOf (chain es s v) (i + 1)) (List.replicate (i + 1) (.bl true))) := by
        have nd : (ksOf (chain es s v) i).Nodup := nodup_rng _ i fun a b h1 h2 z => hdis a b h1 h2 (by have := Sum.inl.inj z; omega)
        have pl : plain (List.replicate i (.bl true)) = true := plain_of fun d hd => by rw [(List.mem_replicate.mp hd).2]; rfl
        have sz : (ksOf (chain es s v) i).length < 16777216 := by simp [ksOf]; omega
        show (if plain (List.replicate i (.bl true)) = true ∧ (ksOf (chain es s v) i).Nodup ∧ (ksOf (chain es s v) i).length < 16777216 then some (D.dic true (putD (ksOf (chain es s v) i) (List.replicate i (.bl true)) (.inl (chain es s v i : Int)) (.bl true)).1 (putD (ksOf (chain es s v) i) (List.replicate i (.bl true)) (.inl (chain es s v i : Int)) (.bl true)).2) else none) = _
        rw [if_pos ⟨pl, nd, sz⟩, putD_new _ _ _ _ (by simp [ksOf]) m]
        simp [ksOf, List.range_succ, List.replicate_succ']
      have hch : chain es s v (i + 1) = back es s (chain es s v i) := rfl
      refine whGo_step (st1 := [some (.lst false (es.map tpD)), some (.lst false (s.last.map D.int)), some (.int (chain es s v i)), some (.dic true (ksOf (chain es s v) i) (List.replicate i (.bl true))), none]) ?_ ?_
      · simp [lk]
      · simp [m_closed_walk_1, gp, g1, g2, hch]
def psD (es : List Edge) (s : BF) (v q : Nat) : List D := ((List.range (q + 1)).map fun j => s.P (chain es s v j)).map D.int
theorem psD_succ (v q : Nat) : psD es s v (q + 1) = psD es s v q ++ [.int (s.P (chain es s v (q + 1)))] := by
  unfold psD
  rw [List.range_succ, List.map_append, List.map_append]
  rfl
theorem psD_last (v q : Nat) : free (atI (psD es s v q) (-1)) = some (.int (s.P (chain es s v q))) := by
  cases q with
  | zero => rfl
  | succ q => rw [psD_succ, atI_last]; rfl
theorem psD_len (v q : Nat) : (psD es s v q).length = q + 1 := by simp [psD]
theorem w2_loop (hb : ∀ e ∈ es, e.1 ≤ n ∧ e.2.1 ≤ n) (hn : n ≤ 100) (I : Inv es n k p s T R t) {v L : Nat} (hc : ∀ j, j ≤ L → chain es s v j ≤ n ∧ 0 < R (chain es s v j)) (hL : chain es s v L = v) (hLn : L ≤ 1000) (dd : Option D) : ∀ (d q f : Nat), q + 1 + d = L → d + 1 ≤ f →
    ∃ q', q' + 1 ≤ L ∧ chain es s v (q' + 1) = v ∧ whGo (tOf (mBin (liftB cNe) (oEx (mBin gIx (oEx (mBin gIx (oNm 0) (oEx (mBin gIx (oNm 4) (oEx (mUn gNeg (oEx (mC (.int 1))))))))) (oEx (mC (.int 0))))) (oNm 2))) m_closed_walk_2 f
      [some (.lst false (es.map tpD)), some (.lst false (s.last.map D.int)), some (.int v), dd, some (.lst true (psD es s v q))] = some (.nx, [some (.lst false (es.map tpD)), some (.lst false (s.last.map D.int)), some (.int v), dd, some (.lst true (psD es s v q'))]) := by
  intro d
  induction d with
  | zero =>
    intro q f hq hf
    obtain ⟨f, rfl⟩ : ∃ f', f = f' + 1 := ⟨f - 1, by omega⟩
    have hq1 : q + 1 = L := by omega
    refine ⟨q, by omega, by rw [hq1]; exact hL, whGo_stop ?_⟩
    obtain ⟨c1, c2⟩ := hc q (by omega)
    obtain ⟨j, b1, b2, b3, _⟩ := I.back hb c1 c2
    have g2 := es_at b2
    have g0 := psD_last (es := es) (s := s) v q
    rw [b1] at g0
    have e : back es s (chain es s v q) = v := by have : chain es s v (q + 1) = v := by rw [hq1]; exact hL
                                                  exact this
    rw [e] at g2
    simp [g0, g2]
  | succ d ih =>
    intro q f hq hf
    obtain ⟨f, rfl⟩ : ∃ f', f = f' + 1 := ⟨f - 1, by omega⟩
    obtain ⟨c1, c2⟩ := hc q (by omega)
    obtain ⟨c3, c4⟩ := hc (q + 1) (by omega)
    obtain ⟨j, b1, b2, b3, _⟩ := I.back hb c1 c2
    have g2 := es_at b2
    have g0 := psD_last (es := es) (s := s) v q
    rw [b1] at g0
    have hch : back es s (chain es s v q) = chain es s v (q + 1) := rfl
    rw [hch] at g2
    by_cases he : chain es s v (q + 1) = v
    · refine ⟨q, by omega, he, whGo_stop ?_⟩
      rw [he] at g2
      simp [g0, g2]
    · obtain ⟨q', h1, h2, e⟩ := ih (q + 1) f (by omega) (by omega)
      refine ⟨q', h1, h2, ?_⟩
      rw [← e, psD_succ]
      have g3 := P_at I c3
      have sz : (psD es s v q).length < 16777216 := by rw [psD_len]; omega
      have he' : ¬ ((chain es s v (q + 1) : Nat) : Int) = v := fun z => he (by omega)
      refine whGo_step (st1 := [some (.lst false (es.map tpD)), some (.lst false (s.last.map D.int)), some (.int v), dd, some (.lst true (psD es s v q))]) ?_ ?_
      · simp [g0, g2]
        omega
      · simp [m_closed_walk_2, mApp_r, g0, g2, g3, sz]
theorem cw_ev (hb : ∀ e ∈ es, e.1 ≤ n ∧ e.2.1 ≤ n) (hn : n ≤ 100) (I : Inv es n k p s T R t) (hk : k = n + 1) (hnd : ¬ s.node < 0) : ∃ v q, v ≤ n ∧ q ≤ n ∧ (∀ j, j ≤ q + 1 → chain es s v j ≤ n ∧ 0 < R (chain es s v j)) ∧ chain es s v (q + 1) = v ∧
    m_closed_walk [.lst false (es.map tpD), .lst false (s.last.map D.int), .int s.node] = some (.tup (psD es s v q).reverse, [none, none, none]) := by
  rcases I.nd with ⟨z, _⟩ | ⟨v0, hv0, hnode, hr0⟩
  · exact absurd z hnd
  obtain ⟨S, r, dd, h1, h2, h3, e1⟩ := w1_loop hb hn I hv0 hr0.symm hk (n + 1) 0 wMax (by omega) (by unfold wMax; omega) (fun a b _ h => by omega)
  have cyc : ∀ j, chain es s v0 (S + j) = chain es s v0 (r + j) := fun j => by rw [chain_add, chain_add, h3]
  have hc : ∀ j, j ≤ S - r → chain es s (chain es s v0 S) j ≤ n ∧ 0 < R (chain es s (chain es s v0 S) j) := fun j hj => by
    rw [← chain_add, cyc]
    by_cases hj2 : r + j = S
    · rw [hj2, h3]
      obtain ⟨c1, c2⟩ := I.chain hb hv0 hr0.symm r (by omega)
      exact ⟨c1, by omega⟩
    · obtain ⟨c1, c2⟩ := I.chain hb hv0 hr0.symm (r + j) (by omega)
      exact ⟨c1, by omega⟩
  have hL : chain es s (chain es s v0 S) (S - r) = chain es s v0 S := by
    rw [← chain_add, cyc, show r + (S - r) = S by omega]
  obtain ⟨q, hq1, hq2, e2⟩ := w2_loop hb hn I hc hL (by omega) (some dd) (S - r - 1) 0 wMax (by omega) (by unfold wMax; omega)
  obtain ⟨c1, c2⟩ := hc 0 (Nat.zero_le _)
  have c1 : chain es s v0 S ≤ n := c1
  refine ⟨chain es s v0 S, q, c1, by omega, fun j hj => hc j (by omega), hq2, ?_⟩
  have g1 := P_at I c1
  have pl : plain (psD es s (chain es s v0 S) q) = true := plain_int _
  have pl2 : plain (psD es s (chain es s v0 S) q).reverse = true := by
    refine plain_of fun d hd => plain_own pl d (List.mem_reverse.mp hd)
  have fz2 : D.fzs (psD es s (chain es s v0 S) q).reverse = (psD es s (chain es s v0 S) q).reverse := fzs_plain pl2
  have k0 : ksOf (chain es s v0) 0 = [] := rfl
  have c0 : chain es s v0 0 = v0 := rfl
  have p0 : psD es s (chain es s v0 S) 0 = [.int (s.P (chain es s v0 S))] := rfl
  rw [k0, c0] at e1
  rw [p0] at e2
  simp only [List.replicate_zero] at e1
  have gr : gRev (.lst true (psD es s (chain es s v0 S) q)) = some (.lst true (psD es s (chain es s v0 S) q).reverse) := if_pos pl
  have gt2 : gTuple (.lst false (psD es s (chain es s v0 S) q).reverse) = some (.tup (psD es s (chain es s v0 S) q).reverse) := if_pos pl2
  rw [hnode, m_closed_walk, fnM_r, b_closed_walk]
  have a2 : ∀ st, t_closed_walk_2 st = whGo (tOf (mBin (liftB cNi) (oNm 2) (oNm 3))) m_closed_walk_1 wMax st := fun _ => rfl
  have a4 : ∀ st, t_closed_walk_4 st = whGo (tOf (mBin (liftB cNe) (oEx (mBin gIx (oEx (mBin gIx (oNm 0) (oEx (mBin gIx (oNm 4) (oEx (mUn gNeg (oEx (mC (.int 1))))))))) (oEx (mC (.int 0))))) (oNm 2))) m_closed_walk_2 wMax st := fun _ => rfl
  simp [t_closed_walk_1, a2, e1, t_closed_walk_3, g1, a4, e2, t_closed_walk_5, gr, fz2, gt2]
end
end Lk17

/-! k17: all points, the least one. -/
namespace Lk17
open PySem L2 MP
def ptD (xs : List Int) : D := .tup (xs.map D.int)
@[simp] theorem ptD_own (r) : (ptD r).own = false := rfl
@[simp] theorem ptD_fz (r) : (ptD r).fz = ptD r := id rfl
@[simp] theorem nmv_pt (r i st) : nmv_ (some (ptD r)) i st = some (ptD r, st) := id rfl
@[simp] theorem plain_pt (l : List (List Int)) : plain (l.map ptD) = true := plain_map _ ptD_own l
@[simp] theorem fzs_pt (l : List (List Int)) : D.fzs (l.map ptD) = l.map ptD := fzs_plain (plain_pt l)
@[simp] theorem free_pt (r) : free (some (ptD r)) = some (ptD r) := id rfl
def cnt (r : Int × Int) : Nat := (r.2 + 1 - r.1).toNat
def ext1 (r : Int × Int) (one : List Int) : List (List Int) := (List.range (cnt r)).map fun (i : Nat) => one ++ [r.1 + (i : Int)]
def ptsGo : List (Int × Int) → List (List Int) → List (List Int)
  | [], told => told
  | r :: rs, told => ptsGo rs (told.flatMap (ext1 r))
def pts (rs : List (Int × Int)) : List (List Int) := ptsGo rs [[]]
theorem p1_loop (d0 : D) (s1 s3 : Option D) (r : Int × Int) (one : List Int) (n : Nat) (hn : n ≤ 100) (ho : one.length ≤ 100) :
    lcGo [5] (gNm 5) tYs (mBin gAdd (oNm 4) (oEx (mTup (aDat (mNm 5) aNil)))) (rngD r.1 n) [some d0, s1, some (prD r), s3, some (ptD one), none] [] =
      some (((List.range n).map fun (i : Nat) => one ++ [r.1 + (i : Int)]).map ptD, [some d0, s1, some (prD r), s3, some (ptD one), none]) := by
  obtain ⟨acc, st', e, rfl, rfl⟩ := lcGo_inv (own := [5]) (tg := gNm 5) (c := tYs) (el := mBin gAdd (oNm 4) (oEx (mTup (aDat (mNm 5) aNil))))
    (fun i st acc => st = [some d0, s1, some (prD r), s3, some (ptD one), none] ∧ acc = ((List.range i).map fun (i : Nat) => one ++ [r.1 + (i : Int)]).map ptD)
    (rngD r.1 n) 0 [some d0, s1, some (prD r), s3, some (ptD one), none] [] ⟨rfl, rfl⟩ (by
      rintro i d st acc hd ⟨rfl, rfl⟩
      obtain ⟨hi, rfl⟩ := rng_at hd
      have sz : one.length + 1 ≤ 16777216 := by omega
      refine ⟨_, true, _, rfl, rfl, (by simp), fun _ => ⟨ptD (one ++ [r.1 + (i : Int)]), [some d0, s1, some (prD r), s3, some (ptD one), some (.int (r.1 + i))], ?_, by simp; omega, by simp, ?_⟩⟩
      · simp [ptD, sz]
      · rw [Nat.zero_add, List.range_succ, List.map_append, List.map_append]; rfl)
  simpa using e
theorem p2_loop (d0 : D) (s1 : Option D) (r : Int × Int) (hr : cnt r ≤ 100) (hr1 : -4000000 ≤ r.1 ∧ r.1 ≤ 4000000 ∧ -4000000 ≤ r.2 ∧ r.2 ≤ 4000000) : ∀ (told more : List (List Int)) (o : Bool) (s4 : Option D), (∀ x ∈ told, x.length ≤ 100) → more.length + 100 * told.length ≤ 16000000 → ∃ t4 o',
    forGo (gNm 4) m__law_points_1 (told.map ptD) [some d0, s1, some (prD r), some (.lst o (more.map ptD)), s4, none] = some (.nx, [some d0, s1, some (prD r), some (.lst o' ((more ++ told.flatMap (ext1 r)).map ptD)), t4, none])
  | [], more, o, s4, _, _ => ⟨s4, o, by simp⟩
  | one :: told, more, o, s4, h1, h2 => by
    have ho := h1 one List.mem_cons_self
    have e1 := p1_loop d0 s1 (some (.lst o (more.map ptD))) r one (cnt r) hr ho
    have ex : (List.range (cnt r)).map (fun (i : Nat) => one ++ [r.1 + (i : Int)]) = ext1 r one := rfl
    rw [ex] at e1
    have hl : (ext1 r one).length = cnt r := by simp [ext1]
    simp only [List.length_cons] at h2
    obtain ⟨t4, o', e2⟩ := p2_loop d0 s1 r hr hr1 told (more ++ ext1 r one) true (some (ptD one)) (fun x hx => h1 x (List.mem_cons_of_mem _ hx)) (by rw [List.length_append, hl]; omega)
    refine ⟨t4, o', ?_⟩
    rw [List.flatMap_cons, ← List.append_assoc, ← e2]
    have c1 : ((-4611686018427387904 : Int) ≤ r.1 ∧ r.1 < 4611686018427387904) ∧ (-4611686018427387904 : Int) ≤ r.2 + 1 ∧ r.2 + 1 < 4611686018427387904 := by omega
    have sz : more.length + (ext1 r one).length ≤ 16777216 := by rw [hl]; omega
    have ec : (r.2 + 1 - r.1).toNat = cnt r := rfl
    simp [m__law_points_1, c1, ec, e1, sz]
theorem ext1_len {r : Int × Int} {one x : List Int} (h : x ∈ ext1 r one) : x.length = one.length + 1 := by
  obtain ⟨i, _, rfl⟩ := List.mem_map.mp h
  simp
theorem flat_len (r : Int × Int) : ∀ told : List (List Int), (told.flatMap (ext1 r)).length = told.length * cnt r
  | [] => by simp
  | one :: told => by
    rw [List.flatMap_cons, List.length_append, flat_len r told, List.length_cons, Nat.succ_mul]
    have : (ext1 r one).length = cnt r := by simp [ext1]
    omega
theorem p3_loop (d0 : D) : ∀ (rs : List (Int × Int)) (told : List (List Int)) (o : Bool) (s2 s3 s4 : Option D), (∀ r ∈ rs, cnt r ≤ 4 ∧ -4000000 ≤ r.1 ∧ r.1 ≤ 4000000 ∧ -4000000 ≤ r.2 ∧ r.2 ≤ 4000000) → (∀ x ∈ told, x.length + rs.length ≤ 10) → told.length * 4 ^ rs.length ≤ 10000 → ∃ t2 t3 t4 o',
    forGo (gNm 2) m__law_points_2 (rs.map prD) [some d0, some (.lst o (told.map ptD)), s2, s3, s4, none] = some (.nx, [some d0, some (.lst o' ((ptsGo rs told).map ptD)), t2, t3, t4, none])
  | [], told, o, s2, s3, s4, _, _, _ => ⟨s2, s3, s4, o, by simp [ptsGo]⟩
  | r :: rs, told, o, s2, s3, s4, h1, h2, h3 => by
    obtain ⟨hc, hb⟩ := h1 r List.mem_cons_self
    have h4 : told.length * 4 * 4 ^ rs.length ≤ 10000 := by
      have : 4 ^ (r :: rs).length = 4 * 4 ^ rs.length := by rw [List.length_cons, Nat.pow_succ, Nat.mul_comm]
      rw [this, ← Nat.mul_assoc] at h3
      exact h3
    have h5 : told.length ≤ 10000 := by
      have : 1 ≤ 4 ^ rs.length := Nat.one_le_pow _ _ (by decide)
      have := Nat.le_mul_of_pos_right (told.length * 4) this
      omega
    obtain ⟨t4, o', e1⟩ := p2_loop d0 (some (.lst false (told.map ptD))) r (by omega) hb told [] true s4 (fun x hx => by have := h2 x hx; omega) (by simp; omega)
    obtain ⟨u2, u3, u4, o2, e2⟩ := p3_loop d0 rs (told.flatMap (ext1 r)) false (some (prD r)) (some (.lst false ((told.flatMap (ext1 r)).map ptD))) t4 (fun x hx => h1 x (List.mem_cons_of_mem _ hx)) (fun x hx => by
      obtain ⟨one, ho, hx⟩ := List.mem_flatMap.mp hx
      have := h2 one ho
      rw [ext1_len hx]
      simp at this
      omega) (by
        rw [flat_len]
        have := Nat.mul_le_mul_left told.length hc
        have := Nat.mul_le_mul_right (4 ^ rs.length) this
        omega)
    refine ⟨u2, u3, u4, o2, ?_⟩
    rw [show ptsGo (r :: rs) told = ptsGo rs (told.flatMap (ext1 r)) from rfl, ← e2]
    simp only [List.map_nil, List.nil_append] at e1
    cases o <;> cases o' <;> simp [m__law_points_2, e1]
theorem pts_ev {rs : List (Int × Int)} (hl : rs.length ≤ 3) (hb : ∀ r ∈ rs, cnt r ≤ 4 ∧ -4000000 ≤ r.1 ∧ r.1 ≤ 4000000 ∧ -4000000 ≤ r.2 ∧ r.2 ≤ 4000000) : ∃ o, m__law_points [.lst false (rs.map prD)] = some (.lst o ((pts rs).map ptD), [none]) := by
  obtain ⟨t2, t3, t4, o, e⟩ := p3_loop (.lst false (rs.map prD)) rs [[]] true none none none hb (by simp; omega) (by
    have : 4 ^ rs.length ≤ 4 ^ 3 := Nat.pow_le_pow_right (by decide) hl
    simp; omega)
  refine ⟨o, ?_⟩
  have e0 : ([[]] : List (List Int)).map ptD = [.tup []] := rfl
  rw [e0] at e
  simp [fnM_r, t__law_points_1, t__law_points_2, t__law_points_3, b__law_points, m__law_points, e, pts]
theorem ptsGo_mem : ∀ (rs : List (Int × Int)) (told : List (List Int)) (x : List Int), x ∈ ptsGo rs told ↔ ∃ one ys, one ∈ told ∧ x = one ++ ys ∧ ys.length = rs.length ∧ ∀ (i : Nat) (h : i < rs.length), rs[i].1 ≤ ys.getD i 0 ∧ ys.getD i 0 ≤ rs[i].2
  | [], told, x => by
    show x ∈ told ↔ _
    constructor
    · intro h
      exact ⟨x, [], h, by simp, rfl, fun i hi => absurd hi (by simp)⟩
    · rintro ⟨one, ys, h, rfl, hl, _⟩
      have : ys = [] := List.length_eq_zero_iff.mp hl
      subst this
      simpa using h
  | r :: rs, told, x => by
    rw [show ptsGo (r :: rs) told = ptsGo rs (told.flatMap (ext1 r)) from rfl, ptsGo_mem rs]
    constructor
    · rintro ⟨one, ys, h, rfl, hl, hb⟩
      obtain ⟨one', ho, h⟩ := List.mem_flatMap.mp h
      obtain ⟨i, hi, rfl⟩ := List.mem_map.mp h
      have hi := List.mem_range.mp hi
      refine ⟨one', (r.1 + (i : Int)) :: ys, ho, by simp, by simp [hl], fun j hj => ?_⟩
      cases j with
      | zero =>
        show r.1 ≤ r.1 + (i : Int) ∧ r.1 + (i : Int) ≤ r.2
        unfold cnt at hi
        omega
      | succ j => exact hb j (by simpa using hj)
    · rintro ⟨one, ys, h, rfl, hl, hb⟩
      cases ys with
      | nil => simp at hl
      | cons y ys =>
        have h0 := hb 0 (by simp)
        have h0 : r.1 ≤ y ∧ y ≤ r.2 := h0
        refine ⟨one ++ [y], ys, List.mem_flatMap.mpr ⟨one, h, List.mem_map.mpr ⟨(y - r.1).toNat, List.mem_range.mpr ?_, ?_⟩⟩, by simp, by simpa using hl, fun j hj => ?_⟩
        · unfold cnt; omega
        · rw [show r.1 + (((y - r.1).toNat : Nat) : Int) = y by omega]
        · exact hb (j + 1) (by simpa using hj)
theorem pts_mem (rs : List (Int × Int)) (x : List Int) : x ∈ pts rs ↔ x.length = rs.length ∧ ∀ (i : Nat) (h : i < rs.length), rs[i].1 ≤ x.getD i 0 ∧ x.getD i 0 ≤ rs[i].2 := by
  unfold pts
  rw [ptsGo_mem]
  constructor
  · rintro ⟨one, ys, h, rfl, h1, h2⟩
    have : one = [] := by simpa using h
    subst this
    exact ⟨h1, h2⟩
  · rintro ⟨h1, h2⟩
    exact ⟨[], x, by simp, rfl, h1, h2⟩
/-! ### which points solve -/
def viol (xs : List Int) (c : Edge) : Bool := decide (c.2.2 < (xs ++ [0]).getD c.1 0 - (xs ++ [0]).getD c.2.1 0)
theorem so1_loop (d0 d1 : D) (xs : List Int) : ∀ (cs : List Edge) (acc : List D), (∀ c ∈ cs, c.1 ≤ xs.length ∧ c.2.1 ≤ xs.length) → acc.length + cs.length ≤ 1000 →
    lcGo [3] (gNm 3) (tOf (mBin (liftB cGt) (oEx (mBin gSub (oEx (mBin gIx (oNm 2) (oEx (mBin gIx (oNm 3) (oEx (mC (.int 0))))))) (oEx (mBin gIx (oNm 2) (oEx (mBin gIx (oNm 3) (oEx (mC (.int 1))))))))) (oEx (mBin gIx (oNm 3) (oEx (mC (.int 2))))))) (mC (.int 1)) (cs.map tpD) [some d0, some d1, some (ptD (xs ++ [0])), none] acc =
      some (acc ++ (cs.filter (viol xs)).map (fun _ => D.int 1), [some d0, some d1, some (ptD (xs ++ [0])), none])
  | [], acc, _, _ => by simp
  | c :: cs, acc, h1, h2 => by
    obtain ⟨ha, hb⟩ := h1 c List.mem_cons_self
    have g1 := atI_map (xs ++ [0]) c.1 (by simp; omega)
    have g2 := atI_map (xs ++ [0]) c.2.1 (by simp; omega)
    have i1 : ∀ i, gIx (ptD (xs ++ [0])) (.int i) = free (atI ((xs ++ [0]).map D.int) i) := fun _ => rfl
    have sz : acc.length < 16777216 := by simp at h2; omega
    by_cases hv : viol xs c = true
    · have hv' : c.2.2 < (xs ++ [0]).getD c.1 0 - (xs ++ [0]).getD c.2.1 0 := of_decide_eq_true hv
      have e := so1_loop d0 d1 xs cs (acc ++ [.int 1]) (fun x hx => h1 x (List.mem_cons_of_mem _ hx)) (by simp at h2 ⊢; omega)
      rw [List.filter_cons_of_pos hv, show acc ++ ((c :: cs.filter (viol xs)).map fun _ => D.int 1) = acc ++ [.int 1] ++ (cs.filter (viol xs)).map (fun _ => D.int 1) from List.append_cons _ _ _, ← e]
      simp [i1, g1, g2, hv', sz, -List.getD_eq_getElem?_getD, -List.map_append]
    · have hv' : ¬ c.2.2 < (xs ++ [0]).getD c.1 0 - (xs ++ [0]).getD c.2.1 0 := fun z => hv (decide_eq_true z)
      have e := so1_loop d0 d1 xs cs acc (fun x hx => h1 x (List.mem_cons_of_mem _ hx)) (by simp at h2 ⊢; omega)
      rw [List.filter_cons_of_neg hv, ← e]
      simp [i1, g1, g2, hv', -List.getD_eq_getElem?_getD, -List.map_append]
def solvesB (cs : List Edge) (xs : List Int) : Bool := (cs.filter (viol xs)).isEmpty
theorem solves_ev {xs : List Int} {cs : List Edge} (h1 : ∀ c ∈ cs, c.1 ≤ xs.length ∧ c.2.1 ≤ xs.length) (h2 : cs.length ≤ 100) (h3 : xs.length ≤ 100) : m__law_solves [ptD xs, .lst false (cs.map tpD)] = some (.bl (solvesB cs xs), [none, none]) := by
  have e := so1_loop (ptD xs) (.lst false (cs.map tpD)) xs cs [] h1 (by simp; omega)
  rw [List.nil_append] at e
  have sz : xs.length + 1 ≤ 16777216 := by omega
  have e1 : gAdd (ptD xs) (.tup [.int 0]) = some (ptD (xs ++ [0])) := by
    show (if (xs.map D.int).length + [D.int 0].length ≤ 16777216 then some (D.tup (xs.map D.int ++ [.int 0])) else none) = _
    rw [if_pos (by simp; omega)]
    simp [ptD]
  have pl : plain ((cs.filter (viol xs)).map (fun _ => D.int 1)) = true := plain_map _ (fun _ => rfl) _
  have fz : D.fzs ((cs.filter (viol xs)).map (fun _ => D.int 1)) = (cs.filter (viol xs)).map (fun _ => D.int 1) := fzs_plain pl
  have e2 : cEq (.lst false ((cs.filter (viol xs)).map (fun _ => D.int 1))) (.lst false []) = some (solvesB cs xs) := by
    rw [cEq_lnil (n := 0) (by rw [List.all_map, List.all_eq_true]; intro _ _; rfl) (by decide)]
    unfold solvesB
    rw [List.isEmpty_map]
  rw [m__law_solves, fnM_r, b__law_solves]
  have a1 : t__law_solves_1 [some (ptD xs), some (.lst false (cs.map tpD)), none, none] = some (.nx, [some (ptD xs), some (.lst false (cs.map tpD)), some (ptD (xs ++ [0])), none]) := by
    simp [t__law_solves_1, e1]
  have a2 : t__law_solves_2 [some (ptD xs), some (.lst false (cs.map tpD)), some (ptD (xs ++ [0])), none] = some (.rt (.bl (solvesB cs xs)), [some (ptD xs), some (.lst false (cs.map tpD)), some (ptD (xs ++ [0])), none]) := by
    simp [t__law_solves_2, e, fz, e2]
  simp [a1, a2]
/-! ### the least one -/
def found (rs : List (Int × Int)) (cs : List Edge) : List (List Int) := (pts rs).filter (solvesB cs)
def least (n : Nat) (f : List (List Int)) : List Int := (List.range n).map fun k => minI (f.map fun x => x.getD k 0)
theorem le1_loop (d0 : D) (cs : List Edge) (n : Nat) (hn : n ≤ 3) (hb : ∀ c ∈ cs, c.1 ≤ n ∧ c.2.1 ≤ n) (hc : cs.length ≤ 100) : ∀ (l : List (List Int)) (acc : List (List Int)), (∀ x ∈ l, x.length = n) → acc.length + l.length ≤ 10000000 →
    lcGo [3] (gNm 3) (tTr (oEx (mFz (mCall [false, false] (m__law_solves) (aDat (mNm 3) (aDat (mNm 1) aNil)))))) (mNm 3) (l.map ptD) [some d0, some (.lst false (cs.map tpD)), none, none, none] (acc.map ptD) =
      some ((acc ++ l.filter (solvesB cs)).map ptD, [some d0, some (.lst false (cs.map tpD)), none, none, none])
  | [], acc, _, _ => by simp
  | x :: l, acc, h1, h2 => by
    have hx := h1 x List.mem_cons_self
    have e1 := solves_ev (xs := x) (cs := cs) (by rw [hx]; exact hb) hc (by omega)
    have sz : acc.length < 16777216 := by simp at h2; omega
    by_cases hv : solvesB cs x = true
    · have e := le1_loop d0 cs n hn hb hc l (acc ++ [x]) (fun y hy => h1 y (List.mem_cons_of_mem _ hy)) (by simp at h2 ⊢; omega)
      rw [List.filter_cons_of_pos hv, List.append_cons, ← e]
      simp [e1, hv, sz]
    · have e := le1_loop d0 cs n hn hb hc l acc (fun y hy => h1 y (List.mem_cons_of_mem _ hy)) (by simp at h2 ⊢; omega)
      have hv' : solvesB cs x = false := by simpa using hv
      rw [List.filter_cons_of_neg hv, ← e]
      simp [e1, hv']
theorem le2_loop (d0 d1 : D) (s4 : Int) (k : Nat) (hk : s4 = k) : ∀ (l : List (List Int)) (acc : List Int) (f : Option D), (∀ x ∈ l, k < x.length) → acc.length + l.length ≤ 10000000 →
    lcGo [3] (gNm 3) tYs (mBin gIx (oNm 3) (oNm 4)) (l.map ptD) [some d0, some d1, f, none, some (.int s4)] (acc.map D.int) =
      some ((acc ++ l.map fun x => x.getD k 0).map D.int, [some d0, some d1, f, none, some (.int s4)])
  | [], acc, f, _, _ => by simp
  | x :: l, acc, f, h1, h2 => by
    have e := le2_loop d0 d1 s4 k hk l (acc ++ [x.getD k 0]) f (fun y hy => h1 y (List.mem_cons_of_mem _ hy)) (by simp at h2 ⊢; omega)
    have g1 := atI_map x k (h1 x List.mem_cons_self)
    have i1 : gIx (ptD x) (.int s4) = some (.int (x.getD k 0)) := by rw [hk]; exact g1
    have sz : acc.length < 16777216 := by simp at h2; omega
    rw [show acc ++ (x :: l).map (fun x => x.getD k 0) = acc ++ [x.getD k 0] ++ l.map (fun x => x.getD k 0) from List.append_cons _ _ _, ← e]
    simp [i1, sz, -List.getD_eq_getElem?_getD]
end Lk17

/-! k17: the least point; what the law compares. -/
namespace Lk17
open PySem L2 MP
theorem nice_pt (l : List (List Int)) : (l.map ptD).all (nice 1) = true := by
  rw [List.all_map, List.all_eq_true]
  intro x _
  show (x.map D.int).all (nice 0) = true
  rw [List.all_map, List.all_eq_true]
  intro _ _
  rfl
theorem least_ev {rs : List (Int × Int)} {cs : List Edge} (hl : rs.length ≤ 3) (hb : ∀ r ∈ rs, cnt r ≤ 4 ∧ -4000000 ≤ r.1 ∧ r.1 ≤ 4000000 ∧ -4000000 ≤ r.2 ∧ r.2 ≤ 4000000) (hc : ∀ c ∈ cs, c.1 ≤ rs.length ∧ c.2.1 ≤ rs.length) (hcl : cs.length ≤ 100) (hp : (pts rs).length ≤ 1000000) :
    m__law_least_point [.lst false (rs.map prD), .lst false (cs.map tpD)] = some (if found rs cs = [] then .non else ptD (least rs.length (found rs cs)), [none, none]) := by
  obtain ⟨o, e1⟩ := pts_ev hl hb
  have mem : ∀ x ∈ pts rs, x.length = rs.length := fun x hx => ((pts_mem rs x).mp hx).1
  have memf : ∀ x ∈ found rs cs, x.length = rs.length := fun x hx => mem x (List.mem_filter.mp hx).1
  have e2 := le1_loop (.lst false (rs.map prD)) cs rs.length hl hc hcl (pts rs) [] mem (by simp; omega)
  rw [List.nil_append] at e2
  simp only [List.map_nil] at e2
  have hfl : (found rs cs).length ≤ 1000000 := Nat.le_trans (List.length_filter_le _ _) hp
  have a1 : t__law_least_point_1 [some (.lst false (rs.map prD)), some (.lst false (cs.map tpD)), none, none, none] = some (.nx, [some (.lst false (rs.map prD)), some (.lst false (cs.map tpD)), some (.lst true ((found rs cs).map ptD)), none, none]) := by
    cases o <;> simp [t__law_least_point_1, e1, e2, found]
  have eq : cEq (.lst true ((found rs cs).map ptD)) (.lst false []) = some (found rs cs).isEmpty := by
    rw [cEq_lnil (nice_pt _) (by decide), List.isEmpty_map]
  rw [m__law_least_point, fnM_r, b__law_least_point]
  by_cases hf : found rs cs = []
  · have : (found rs cs).isEmpty = true := by rw [hf]; rfl
    rw [if_pos hf]
    simp [a1, t__law_least_point_2, eq, this]
  · have hne : (found rs cs).isEmpty = false := by
      cases q : found rs cs with
      | nil => exact absurd q hf
      | cons _ _ => rfl
    rw [if_neg hf]
    have a2 : t__law_least_point_2 [some (.lst false (rs.map prD)), some (.lst false (cs.map tpD)), some (.lst true ((found rs cs).map ptD)), none, none] = some (.nx, [some (.lst false (rs.map prD)), some (.lst false (cs.map tpD)), some (.lst true ((found rs cs).map ptD)), none, none]) := by
      simp [t__law_least_point_2, eq, hne]
    obtain ⟨acc, st', e3, ⟨o', rfl⟩, rfl⟩ := lcGo_inv (own := [4]) (tg := gNm 4) (c := tYs) (el := (mUn gMin (oEx (mFz (mLc [3] (wSq (mNm 2)) (gNm 3) tYs (mBin gIx (oNm 3) (oNm 4)))))))
      (fun i st acc => (∃ o, st = [some (.lst false (rs.map prD)), some (.lst false (cs.map tpD)), some (.lst o ((found rs cs).map ptD)), none, none]) ∧ acc = ((List.range i).map fun k => minI ((found rs cs).map fun x => x.getD k 0)).map D.int)
      (rngD 0 rs.length) 0 [some (.lst false (rs.map prD)), some (.lst false (cs.map tpD)), some (.lst true ((found rs cs).map ptD)), none, none] [] ⟨⟨true, rfl⟩, rfl⟩ (by
        rintro i d st acc hd ⟨⟨o, rfl⟩, rfl⟩
        obtain ⟨hi, rfl⟩ := rng_at hd
        have e4 := le2_loop (.lst false (rs.map prD)) (.lst false (cs.map tpD)) (0 + (i : Int)) i (by omega) (found rs cs) [] (some (.lst false ((found rs cs).map ptD))) (fun x hx => by rw [memf x hx]; exact hi) (by simp; omega)
        rw [List.nil_append] at e4
        simp only [List.map_nil, Int.zero_add] at e4
        have gm : gMin (.lst false (((found rs cs).map fun x => x.getD i 0).map D.int)) = some (.int (minI ((found rs cs).map fun x => x.getD i 0))) := by
          show (match intsOf (((found rs cs).map fun x => x.getD i 0).map D.int) with | some ns => if 0 < ns.length then some (D.int (minI ns)) else none | none => none) = _
          rw [intsOf_map]
          simp only
          rw [if_pos (by
            rw [List.length_map]
            exact List.length_pos_iff.mpr hf)]
        refine ⟨_, true, _, rfl, rfl, (by simp), fun _ => ⟨.int (minI ((found rs cs).map fun x => x.getD i 0)), [some (.lst false (rs.map prD)), some (.lst false (cs.map tpD)), some (.lst false ((found rs cs).map ptD)), none, some (.int (0 + i))], ?_, by simp; omega, ⟨false, by simp⟩, ?_⟩⟩
        · have fz := fzs_int ((found rs cs).map fun x => x.getD i 0)
          cases o <;> simp [e4, fz, gm, -List.map_map, -List.getD_eq_getElem?_getD]
        · rw [Nat.zero_add, List.range_succ, List.map_append, List.map_append]; rfl)
    have h1 : (-4611686018427387904 : Int) ≤ rs.length ∧ (rs.length : Int) < 4611686018427387904 := by omega
    have fz := fzs_int ((List.range rs.length).map fun k => minI ((found rs cs).map fun x => x.getD k 0))
    have pl := plain_int ((List.range rs.length).map fun k => minI ((found rs cs).map fun x => x.getD k 0))
    simp only [rng_len, Nat.zero_add] at e3
    simp [a1, a2, t__law_least_point_3, h1, e3, fz, pl, -List.map_map, -List.getD_eq_getElem?_getD]
    rfl
theorem whole_ev (i : Int) : m__law_whole [.int i] = some (.bl true, [none]) := by
  simp [fnM_r, b__law_whole, m__law_whole]
/-! same -/
theorem same_int (k : Nat) (i : Int) : m__law_same (k + 1) [.int i, .int i] = some (.bl true, [none, none]) := by
  simp [m__law_same, fnM_r, b__law_same, t__law_same_1, t__law_same_2, t__law_same_3, t__law_same_4, MP.isNon]
theorem same_str (k : Nat) (x : Str) : m__law_same (k + 1) [.str x, .str x] = some (.bl true, [none, none]) := by
  simp [m__law_same, fnM_r, b__law_same, t__law_same_1, t__law_same_2, t__law_same_3, t__law_same_4, t__law_same_5, MP.isNon]
theorem same_tup (k : Nat) (ds : List D) (pl : plain ds = true) (hl : ds.length ≤ 1000) (h : ∀ d ∈ ds, m__law_same k [d, d] = some (.bl true, [none, none])) : m__law_same (k + 1) [.tup ds, .tup ds] = some (.bl true, [none, none]) := by
  obtain ⟨st', e, s2, rfl⟩ := forGo_inv (tg := gNm 2) (body := m__law_same_1 (m__law_same k)) (fun _ st => ∃ s2, st = [some (.tup ds), some (.tup ds), s2]) (rngD 0 ds.length) 0 [some (.tup ds), some (.tup ds), none] ⟨none, rfl⟩ (by
    rintro i d st hd ⟨s2, rfl⟩
    obtain ⟨hi, rfl⟩ := rng_at hd
    have g : free (atI ds (i : Int)) = some ds[i] := free_of pl (by rw [atI_n, List.getElem?_eq_getElem hi])
    have o := plain_own pl ds[i] (List.getElem_mem hi)
    refine ⟨_, .nx, [some (.tup ds), some (.tup ds), some (.int i)], rfl, ?_, .inl rfl, _, rfl⟩
    simp [m__law_same_1, g, o, h ds[i] (List.getElem_mem hi)])
  have h1 : (-4611686018427387904 : Int) ≤ ds.length ∧ (ds.length : Int) < 4611686018427387904 := by omega
  simp [m__law_same, fnM_r, b__law_same, t__law_same_1, t__law_same_2, MP.isNon, h1, e]
/-! ### the walk's check -/
theorem rangeE_app (n : Nat) : ∀ (k : Nat) (a b : List (Int × Int)), rangeE n k (a ++ b) = rangeE n k a ++ rangeE n (k + a.length) b
  | k, [], b => by simp [rangeE]
  | k, r :: a, b => by
    have := rangeE_app n (k + 1) a b
    simp only [List.cons_append, rangeE, this, List.length_cons]
    rw [show k + 1 + a.length = k + (a.length + 1) by omega]
theorem w3_loop (rs : List (Int × Int)) (d1 d2 : D) (hl : rs.length ≤ 100) : ∃ s5, forGo (gNm 5) m__law_walk_ok_1 (rngD 0 rs.length) [some (.lst false (rs.map prD)), some d1, some d2, some (.int rs.length), some (.lst true []), none, none, none, none, none] =
    some (.nx, [some (.lst false (rs.map prD)), some d1, some d2, some (.int rs.length), some (.lst true ((rangeE rs.length 0 rs).map tpD)), s5, none, none, none, none]) := by
  obtain ⟨st', e, s5, rfl⟩ := forGo_inv (tg := gNm 5) (body := m__law_walk_ok_1) (fun i st => ∃ s5, st = [some (.lst false (rs.map prD)), some d1, some d2, some (.int rs.length), some (.lst true ((rangeE rs.length 0 (rs.take i)).map tpD)), s5, none, none, none, none]) (rngD 0 rs.length) 0
    [some (.lst false (rs.map prD)), some d1, some d2, some (.int rs.length), some (.lst true []), none, none, none, none, none] ⟨none, by simp [rangeE]⟩ (by
      rintro i d st hd ⟨s5, rfl⟩
      obtain ⟨hi, rfl⟩ := rng_at hd
      have hr : rs[i]? = some rs[i] := List.getElem?_eq_getElem hi
      have sz : (rangeE rs.length 0 (rs.take i)).length + 2 ≤ 16777216 := by rw [rangeE_len, List.length_take]; omega
      have ex : rangeE rs.length 0 (rs.take (0 + i + 1)) = rangeE rs.length 0 (rs.take i) ++ [(i, rs.length, rs[i].2), (rs.length, i, -rs[i].1)] := by
        rw [Nat.zero_add, List.take_succ, hr, rangeE_app, Nat.zero_add, List.length_take, Nat.min_eq_left (by omega)]
        rfl
      refine ⟨_, .nx, _, rfl, ?_, .inl rfl, some (.int i), by rw [ex]⟩
      rw [Nat.zero_add]
      simp [m__law_walk_ok_1, atI_n, hr, sz]
      refine ⟨rfl, rfl⟩)
  refine ⟨s5, ?_⟩
  rw [e]
  simp
section
variable {es : List Edge} {n k p t : Nat} {s : BF} {T R : Nat → Nat}
theorem w6_loop (d0 d1 d2 : D) (s3 s5 s7 s8 s9 : Option D) : ∀ (ps : List Nat) (s6 : Option D), (∀ j ∈ ps, j < es.length) → ∃ t6, forGo (gNm 6) m__law_walk_ok_2 (ps.map fun (j : Nat) => D.int j) [some d0, some d1, some d2, s3, some (.lst true (es.map tpD)), s5, s6, s7, s8, s9] =
    some (.nx, [some d0, some d1, some d2, s3, some (.lst true (es.map tpD)), s5, t6, s7, s8, s9])
  | [], s6, _ => ⟨s6, by simp⟩
  | j :: ps, s6, h => by
    obtain ⟨t6, e⟩ := w6_loop d0 d1 d2 s3 s5 s7 s8 s9 ps (some (.int j)) fun x hx => h x (List.mem_cons_of_mem _ hx)
    refine ⟨t6, ?_⟩
    rw [← e]
    have hj := h j List.mem_cons_self
    simp [m__law_walk_ok_2, whole_ev, hj]
/-- the walk's places, backwards -/
theorem ps_at (v q i : Nat) (hi : i ≤ q) : ((psD es s v q).reverse)[i]? = some (.int (s.P (chain es s v (q - i)))) := by
  rw [List.getElem?_reverse (by rw [psD_len]; omega), psD_len]
  unfold psD
  rw [List.map_map, List.getElem?_map, List.getElem?_range (by omega)]
  simp only [Option.map_some, Function.comp]
  rw [show q + 1 - 1 - i = q - i by omega]
theorem w8_loop (hb : ∀ e ∈ es, e.1 ≤ n ∧ e.2.1 ≤ n) (I : Inv es n k p s T R t) {v q : Nat} (hq : q ≤ 1000) (hc : ∀ j, j ≤ q + 1 → chain es s v j ≤ n ∧ 0 < R (chain es s v j)) (hcy : chain es s v (q + 1) = v) (d0 d1 : D) (s3 s5 s6 : Option D) : ∃ t6 t8 t9,
    forGo (gNm 6) m__law_walk_ok_3 (rngD 0 (q + 1)) [some d0, some d1, some (.tup (psD es s v q).reverse), s3, some (.lst true (es.map tpD)), s5, s6, some (.int 0), none, none] =
      some (.nx, [some d0, some d1, some (.tup (psD es s v q).reverse), s3, some (.lst true (es.map tpD)), s5, t6, some (.int (sumW es s v (q + 1))), t8, t9]) := by
  obtain ⟨st', e, t6, t8, t9, rfl⟩ := forGo_inv (tg := gNm 6) (body := m__law_walk_ok_3)
    (fun i st => ∃ t6 t8 t9, st = [some d0, some d1, some (.tup (psD es s v q).reverse), s3, some (.lst true (es.map tpD)), s5, t6, some (.int (sumW es s v (q + 1) - sumW es s v (q + 1 - i))), t8, t9]) (rngD 0 (q + 1)) 0
    [some d0, some d1, some (.tup (psD es s v q).reverse), s3, some (.lst true (es.map tpD)), s5, s6, some (.int 0), none, none] ⟨s6, none, none, by simp⟩ (by
      rintro i d st hd ⟨t6, t8, t9, rfl⟩
      obtain ⟨hi, rfl⟩ := rng_at hd
      obtain ⟨c1, c2⟩ := hc (q - i) (by omega)
      obtain ⟨j1, b1, b2, _⟩ := I.back hb c1 c2
      have pl : plain (psD es s v q).reverse = true := plain_of fun d hd => plain_own (plain_int _) d (List.mem_reverse.mp hd)
      have hps : ∀ i', i' ≤ q → free (atI (psD es s v q).reverse (i' : Int)) = some (.int (s.P (chain es s v (q - i')))) := fun i' h => free_of pl (by rw [atI_n, ps_at v q i' h])
      have g1 := hps i (by omega)
      rw [b1] at g1
      have g2 := es_at b2
      -- the place behind it
      obtain ⟨m, hm, hmod⟩ : ∃ m : Nat, m ≤ q ∧ ((i : Int) + 1) % ((q + 1 : Nat) : Int) = m ∧ chain es s v (q - m + 1) = chain es s v (q - i) := by
        by_cases h : i = q
        · refine ⟨0, by omega, ?_, ?_⟩
          · rw [h, show ((q : Int) + 1) = ((q + 1 : Nat) : Int) by omega, Int.emod_self]; rfl
          · rw [h, Nat.sub_zero, Nat.sub_self, hcy]; rfl
        · refine ⟨i + 1, by omega, ?_, ?_⟩
          · rw [Int.emod_eq_of_lt (by omega) (by omega)]; omega
          · rw [show q - (i + 1) + 1 = q - i by omega]
      obtain ⟨hmod, hch⟩ := hmod
      obtain ⟨c3, c4⟩ := hc (q - m) (by omega)
      obtain ⟨j2, b3, b4, _⟩ := I.back hb c3 c4
      have g3 := hps m hm
      rw [b3] at g3
      have g4 := es_at b4
      have hb5 : back es s (chain es s v (q - m)) = chain es s v (q - i) := hch
      rw [hb5] at g4
      have lenq : (psD es s v q).reverse.length = q + 1 := by rw [List.length_reverse, psD_len]
      have hs : sumW es s v (q + 1) - sumW es s v (q + 1 - i) + wt es s (chain es s v (q - i)) = sumW es s v (q + 1) - sumW es s v (q + 1 - (0 + i + 1)) := by
        have : sumW es s v (q - i + 1) = sumW es s v (q - i) + wt es s (chain es s v (q - i)) := rfl
        rw [show q + 1 - i = q - i + 1 by omega, show q + 1 - (0 + i + 1) = q - i by omega, this]
        omega
      refine ⟨_, .nx, _, rfl, ?_, .inl rfl, some (.int i), some (tpD (back es s (chain es s v (q - i)), chain es s v (q - i), wt es s (chain es s v (q - i)))), some (tpD (chain es s v (q - i), chain es s v (q - m), wt es s (chain es s v (q - m)))), by rw [← hs]⟩
      have hpos : (0 : Int) < ((q + 1 : Nat) : Int) := by omega
      rw [Nat.zero_add, Int.zero_add]
      simp only [m__law_walk_ok_3, pt]
      have hl2 : (((psD es s v q).reverse.length : Nat) : Int) = ((q + 1 : Nat) : Int) := by rw [lenq]
      simp [g1, g2, -List.length_reverse, -Int.natCast_add, hl2, hpos, hmod, g3, g4])
  refine ⟨t6, t8, t9, ?_⟩
  rw [e]
  simp [sumW]
end
end Lk17

/-! k17: the law. -/
namespace Lk17
open PySem L2 MP
theorem listed_len (rs : List (Int × Int)) (cs : List Edge) : (listed rs cs).length = 2 * rs.length + cs.length := by
  unfold listed; rw [List.length_append, rangeE_len]
theorem walk_ev {rs : List (Int × Int)} {cs : List Edge} {n k p t : Nat} {s : BF} {T R : Nat → Nat} (hl : rs.length ≤ 100) (hcl : cs.length ≤ 100) (hb : ∀ e ∈ listed rs cs, e.1 ≤ n ∧ e.2.1 ≤ n) (I : Inv (listed rs cs) n k p s T R t) {v q : Nat} (hv : v ≤ n) (hq : q ≤ 1000)
    (hc : ∀ j, j ≤ q + 1 → chain (listed rs cs) s v j ≤ n ∧ 0 < R (chain (listed rs cs) s v j)) (hcy : chain (listed rs cs) s v (q + 1) = v) :
    m__law_walk_ok [.lst false (rs.map prD), .lst false (cs.map tpD), .tup (psD (listed rs cs) s v q).reverse] = some (.bl true, [none, none, none]) := by
  obtain ⟨s5, e3⟩ := w3_loop rs (.lst false (cs.map tpD)) (.tup (psD (listed rs cs) s v q).reverse) hl
  -- the places as numbers
  have hpsn : ∃ ps : List Nat, (psD (listed rs cs) s v q).reverse = ps.map (fun (j : Nat) => D.int j) ∧ ∀ j ∈ ps, j < (listed rs cs).length := by
    have : ∀ (l : List D), (∀ d ∈ l, ∃ j : Nat, d = .int j ∧ j < (listed rs cs).length) → ∃ ps : List Nat, l = ps.map (fun (j : Nat) => D.int j) ∧ ∀ j ∈ ps, j < (listed rs cs).length := by
      intro l
      induction l with
      | nil => intro _; exact ⟨[], rfl, by simp⟩
      | cons d l ih =>
        intro h
        obtain ⟨j, rfl, hj⟩ := h d List.mem_cons_self
        obtain ⟨ps, rfl, hp⟩ := ih fun x hx => h x (List.mem_cons_of_mem _ hx)
        exact ⟨j :: ps, rfl, fun x hx => by
          rcases List.mem_cons.mp hx with rfl | hx
          · exact hj
          · exact hp x hx⟩
    refine this _ fun d hd => ?_
    have hd := List.mem_reverse.mp hd
    unfold psD at hd
    obtain ⟨i, hi, rfl⟩ := List.mem_map.mp hd
    obtain ⟨j, hj, rfl⟩ := List.mem_map.mp hi
    obtain ⟨c1, c2⟩ := hc j (by have := List.mem_range.mp hj; omega)
    obtain ⟨j1, b1, b2, _⟩ := I.back hb c1 c2
    exact ⟨j1, by rw [b1], (List.getElem?_eq_some_iff.mp b2).1⟩
  obtain ⟨ps, hps, hpl⟩ := hpsn
  obtain ⟨t6, e6⟩ := w6_loop (es := listed rs cs) (.lst false (rs.map prD)) (.lst false (cs.map tpD)) (.tup (psD (listed rs cs) s v q).reverse) (some (.int rs.length)) s5 none none none ps none hpl
  rw [← hps] at e6
  obtain ⟨t7, t8, t9, e8⟩ := w8_loop hb I hq hc hcy (.lst false (rs.map prD)) (.lst false (cs.map tpD)) (some (.int rs.length)) s5 t6
  have neg := I.neg hb hv hc hcy
  have lenq : (psD (listed rs cs) s v q).reverse.length = q + 1 := by rw [List.length_reverse, psD_len]
  generalize (psD (listed rs cs) s v q).reverse = P at *
  have h1 : (-4611686018427387904 : Int) ≤ rs.length ∧ (rs.length : Int) < 4611686018427387904 := by omega
  have h2 : (-4611686018427387904 : Int) ≤ (q : Int) + 1 ∧ (q : Int) + 1 < 4611686018427387904 := by omega
  have h3 : ((q : Int) + 1).toNat = q + 1 := by omega
  have h4 : ¬ (q : Int) + 1 = 0 := by omega
  have sz : (rangeE rs.length 0 rs).length + cs.length ≤ 16777216 := by rw [rangeE_len]; omega
  have ll : (rangeE rs.length 0 rs).map tpD ++ cs.map tpD = (listed rs cs).map tpD := by unfold listed; rw [List.map_append]
  rw [m__law_walk_ok, fnM_r, b__law_walk_ok]
  have a3 : t__law_walk_ok_3 [some (.lst false (rs.map prD)), some (.lst false (cs.map tpD)), some (.tup P), some (.int rs.length), some (.lst true []), none, none, none, none, none] = some (.nx, [some (.lst false (rs.map prD)), some (.lst false (cs.map tpD)), some (.tup P), some (.int rs.length), some (.lst true ((rangeE rs.length 0 rs).map tpD)), s5, none, none, none, none]) := by
    simp [t__law_walk_ok_3, h1, e3]
  have a4 : t__law_walk_ok_4 [some (.lst false (rs.map prD)), some (.lst false (cs.map tpD)), some (.tup P), some (.int rs.length), some (.lst true ((rangeE rs.length 0 rs).map tpD)), s5, none, none, none, none] = some (.nx, [some (.lst false (rs.map prD)), some (.lst false (cs.map tpD)), some (.tup P), some (.int rs.length), some (.lst true ((listed rs cs).map tpD)), s5, none, none, none, none]) := by
    simp [t__law_walk_ok_4, sz, ll]
  have a6 : t__law_walk_ok_6 [some (.lst false (rs.map prD)), some (.lst false (cs.map tpD)), some (.tup P), some (.int rs.length), some (.lst true ((listed rs cs).map tpD)), s5, none, none, none, none] = some (.nx, [some (.lst false (rs.map prD)), some (.lst false (cs.map tpD)), some (.tup P), some (.int rs.length), some (.lst true ((listed rs cs).map tpD)), s5, t6, none, none, none]) := by
    simp [t__law_walk_ok_6, e6]
  have a8 : t__law_walk_ok_8 [some (.lst false (rs.map prD)), some (.lst false (cs.map tpD)), some (.tup P), some (.int rs.length), some (.lst true ((listed rs cs).map tpD)), s5, t6, some (.int 0), none, none] = some (.nx, [some (.lst false (rs.map prD)), some (.lst false (cs.map tpD)), some (.tup P), some (.int rs.length), some (.lst true ((listed rs cs).map tpD)), s5, t7, some (.int (sumW (listed rs cs) s v (q + 1))), t8, t9]) := by
    simp [t__law_walk_ok_8, lenq, h2, h3, e8]
  simp [t__law_walk_ok_1, t__law_walk_ok_2, a3, a4, t__law_walk_ok_5, lenq, h4, a6, t__law_walk_ok_7, a8, t__law_walk_ok_9, neg]
/-! ### feasible points and feasible potentials -/
def pot (x : List Int) (v : Nat) : Int := -((x ++ [0]).getD v 0)
theorem getD_app {x : List Int} {v : Nat} (h : v < x.length) : (x ++ [0]).getD v 0 = x.getD v 0 := by
  simp [List.getD, List.getElem?_append_left h]
theorem getD_end (x : List Int) : (x ++ [0]).getD x.length 0 = 0 := by simp [List.getD]
theorem rangeE_mem (n : Nat) : ∀ (k : Nat) (rs : List (Int × Int)) (e : Edge), e ∈ rangeE n k rs → ∃ (i : Nat) (h : i < rs.length), e = (k + i, n, rs[i].2) ∨ e = (n, k + i, -rs[i].1)
  | k, [], e, h => by cases h
  | k, r :: rs, e, h => by
    have h : e = (k, n, r.2) ∨ e = (n, k, -r.1) ∨ e ∈ rangeE n (k + 1) rs := by simpa [rangeE] using h
    rcases h with h | h | h
    · exact ⟨0, by simp, .inl h⟩
    · exact ⟨0, by simp, .inr h⟩
    · obtain ⟨i, hi, h⟩ := rangeE_mem n (k + 1) rs e h
      refine ⟨i + 1, by simpa using hi, ?_⟩
      rw [show k + (i + 1) = k + 1 + i by omega]
      exact h
theorem rangeE_hi (n : Nat) : ∀ (k : Nat) (rs : List (Int × Int)) (i : Nat) (h : i < rs.length), (k + i, n, rs[i].2) ∈ rangeE n k rs
  | k, r :: rs, 0, _ => by simp [rangeE]
  | k, r :: rs, i + 1, h => by
    have := rangeE_hi n (k + 1) rs i (by simpa using h)
    rw [show k + (i + 1) = k + 1 + i by omega]
    simp only [rangeE, List.getElem_cons_succ]
    exact List.mem_cons_of_mem _ (List.mem_cons_of_mem _ this)
theorem rangeE_lo (n : Nat) : ∀ (k : Nat) (rs : List (Int × Int)) (i : Nat) (h : i < rs.length), (n, k + i, -rs[i].1) ∈ rangeE n k rs
  | k, r :: rs, 0, _ => by simp [rangeE]
  | k, r :: rs, i + 1, h => by
    have := rangeE_lo n (k + 1) rs i (by simpa using h)
    rw [show k + (i + 1) = k + 1 + i by omega]
    simp only [rangeE, List.getElem_cons_succ]
    exact List.mem_cons_of_mem _ (List.mem_cons_of_mem _ this)
theorem solves_iff (cs : List Edge) (x : List Int) : solvesB cs x = true ↔ ∀ c ∈ cs, (x ++ [0]).getD c.1 0 - (x ++ [0]).getD c.2.1 0 ≤ c.2.2 := by
  unfold solvesB
  rw [List.isEmpty_iff, List.filter_eq_nil_iff]
  constructor
  · intro h c hc
    have := h c hc
    unfold viol at this
    have := of_decide_eq_false (by simpa using this : decide (c.2.2 < (x ++ [0]).getD c.1 0 - (x ++ [0]).getD c.2.1 0) = false)
    omega
  · intro h c hc z
    have := h c hc
    have := of_decide_eq_true z
    omega
theorem found_fea {rs : List (Int × Int)} {cs : List Edge} {x : List Int} : x ∈ found rs cs ↔ x.length = rs.length ∧ Fea (listed rs cs) rs.length (pot x) := by
  unfold found
  rw [List.mem_filter, pts_mem, solves_iff]
  constructor
  · rintro ⟨⟨h1, h2⟩, h3⟩
    have ge : (x ++ [0]).getD rs.length 0 = 0 := by rw [← h1]; exact getD_end x
    refine ⟨h1, by unfold pot; rw [ge]; rfl, fun j u v c hj => ?_⟩
    have hm := List.mem_of_getElem? hj
    unfold listed at hm
    rcases List.mem_append.mp hm with hm | hm
    · obtain ⟨i, hi, e | e⟩ := rangeE_mem _ _ _ _ hm
      · cases e
        have := (h2 i hi).2
        unfold pot
        rw [Nat.zero_add, getD_app (v := i) (by omega), ge]
        omega
      · cases e
        have := (h2 i hi).1
        unfold pot
        rw [Nat.zero_add, getD_app (v := i) (by omega), ge]
        omega
    · have := h3 _ hm
      unfold pot
      simp only at this
      omega
  · rintro ⟨h1, h2, h3⟩
    have ge : (x ++ [0]).getD rs.length 0 = 0 := by rw [← h1]; exact getD_end x
    have mem3 : ∀ (e : Edge), e ∈ listed rs cs → pot x e.2.1 ≤ pot x e.1 + e.2.2 := fun e he => by
      obtain ⟨j, hj⟩ := List.mem_iff_getElem?.mp he
      exact h3 j e.1 e.2.1 e.2.2 hj
    refine ⟨⟨h1, fun i hi => ⟨?_, ?_⟩⟩, fun c hc => ?_⟩
    · have := mem3 _ (List.mem_append_left _ (rangeE_lo rs.length 0 rs i hi))
      simp only [Nat.zero_add] at this
      unfold pot at this
      rw [getD_app (v := i) (by omega), ge] at this
      omega
    · have := mem3 _ (List.mem_append_left _ (rangeE_hi rs.length 0 rs i hi))
      simp only [Nat.zero_add] at this
      unfold pot at this
      rw [getD_app (v := i) (by omega), ge] at this
      omega
    · have := mem3 c (List.mem_append_right _ hc)
      unfold pot at this
      omega
/-- where all edges hold, the lengths are the least solution -/
theorem done_least {rs : List (Int × Int)} {cs : List Edge} {s : BF} (hb : ∀ e ∈ listed rs cs, e.1 ≤ rs.length ∧ e.2.1 ≤ rs.length) (h : Done (listed rs cs) rs.length s) : found rs cs ≠ [] ∧ pointD rs.length s.len = ptD (least rs.length (found rs cs)) := by
  obtain ⟨h1, h2, h3, h4⟩ := h
  -- a solution
  have f0 : Fea (listed rs cs) rs.length fun v => s.L v - s.L rs.length := ⟨by show s.L rs.length - s.L rs.length = 0; omega, fun j u v c hj => by
    have := h2 j u v c hj
    show s.L v - s.L rs.length ≤ s.L u - s.L rs.length + c
    omega⟩
  have hn0 : s.L rs.length = 0 := by
    have := h3 _ f0 rs.length (Nat.le_refl _)
    have : s.L rs.length - s.L rs.length ≤ s.L rs.length := this
    omega
  -- the point
  have xl : ((List.range rs.length).map fun i => -(s.len.getD i 0)).length = rs.length := by simp
  have xi : ∀ i, i < rs.length → ((List.range rs.length).map fun i => -(s.len.getD i 0)).getD i 0 = -(s.L i) := fun i hi => by
    unfold List.getD
    rw [List.getElem?_map, List.getElem?_range hi]
    rfl
  generalize hx : ((List.range rs.length).map fun i => -(s.len.getD i 0)) = x at xl xi
  have hpot : ∀ v, v ≤ rs.length → pot x v = s.L v := fun v hv => by
    unfold pot
    by_cases h : v < rs.length
    · rw [getD_app (by omega), xi v h]; omega
    · have e : v = x.length := by omega
      rw [e, getD_end, xl, hn0]; rfl
  have hm : x ∈ found rs cs := found_fea.mpr ⟨xl, by rw [hpot _ (Nat.le_refl _)]; exact hn0, fun j u v c hj => by
    obtain ⟨c1, c2⟩ := hb _ (List.mem_of_getElem? hj)
    rw [hpot u c1, hpot v c2]
    exact h2 j u v c hj⟩
  refine ⟨(fun z => by rw [z] at hm; cases hm), ?_⟩
  have le : least rs.length (found rs cs) = x := by
    rw [← hx]
    unfold least
    refine List.map_congr_left fun i hi => ?_
    have hi := List.mem_range.mp hi
    refine (minI_is (List.mem_map.mpr ⟨x, hm, ?_⟩) fun y hy => ?_).symm
    · exact xi i hi
    · obtain ⟨x', hx', rfl⟩ := List.mem_map.mp hy
      obtain ⟨l', f'⟩ := found_fea.mp hx'
      have := h3 _ f' i (by omega)
      unfold pot at this
      rw [getD_app (by omega)] at this
      show -(s.L i) ≤ _
      omega
  rw [le, ← hx]
  unfold pointD ptD
  rw [List.map_map]
  rfl
/-! ### the answers -/
theorem same_pt (k : Nat) (x : List Int) (h : x.length ≤ 1000) : m__law_same (k + 2) [ptD x, ptD x] = some (.bl true, [none, none]) :=
  same_tup (k + 1) _ (plain_int x) (by simpa using h) fun d hd => by
    obtain ⟨i, _, rfl⟩ := List.mem_map.mp hd
    exact same_int k i
theorem same_ans (x : List Int) (h : x.length ≤ 1000) : m__law_same 8 [.tup [.str "point", ptD x], .tup [.str "point", ptD x]] = some (.bl true, [none, none]) :=
  same_tup 7 _ (by simp) (by simp) fun d hd => by
    rcases List.mem_cons.mp hd with rfl | hd
    · exact same_str 6 _
    · have : d = ptD x := by simpa using hd
      subst this
      exact same_pt 5 x h
theorem nice_sys (rs : List (Int × Int)) (cs : List Edge) : nice 3 (.lst true [.lst false (rs.map prD), .lst false (cs.map tpD)]) = true := by
  have h1 : nice 2 (.lst false (rs.map prD)) = true := by
    show (rs.map prD).all (nice 1) = true
    rw [List.all_map, List.all_eq_true]
    intro x _; rfl
  have h2 : nice 2 (.lst false (cs.map tpD)) = true := by
    show (cs.map tpD).all (nice 1) = true
    rw [List.all_map, List.all_eq_true]
    intro x _; rfl
  show ([D.lst false (rs.map prD), .lst false (cs.map tpD)]).all (nice 2) = true
  simp [h1, h2]
theorem answered_ev {rs : List (Int × Int)} {cs : List Edge} (hl : rs.length ≤ 3) (hr : ∀ r ∈ rs, -3000000 ≤ r.1 ∧ r.1 ≤ 1000000 ∧ -3000000 ≤ r.2 ∧ r.2 ≤ r.1 + 3) (hcl : cs.length ≤ 8) (hc : ∀ c ∈ cs, c.1 ≤ rs.length ∧ c.2.1 ≤ rs.length) (b : Bool) :
    m__law_answered [.lst false (rs.map prD), .lst false (cs.map tpD), .bl b] = some (.bl true, [none, none, none]) := by
  have hb4 : ∀ r ∈ rs, cnt r ≤ 4 ∧ -4000000 ≤ r.1 ∧ r.1 ≤ 4000000 ∧ -4000000 ≤ r.2 ∧ r.2 ≤ 4000000 := fun r h => by
    have := hr r h
    unfold cnt
    omega
  have hb : ∀ e ∈ listed rs cs, e.1 ≤ rs.length ∧ e.2.1 ≤ rs.length := fun e he => by
    rcases List.mem_append.mp he with h | h
    · obtain ⟨i, hi, h | h⟩ := rangeE_mem _ _ _ _ h
      · subst h; simp only; omega
      · subst h; simp only; omega
    · exact hc e h
  have hp : (pts rs).length ≤ 1000000 := by
    have key : ∀ (l : List (Int × Int)) (told : List (List Int)), (∀ r ∈ l, cnt r ≤ 4) → (ptsGo l told).length ≤ told.length * 4 ^ l.length := by
      intro l
      induction l with
      | nil => intro told _; simp [ptsGo]
      | cons r l ih =>
        intro told h
        have h1 := ih (told.flatMap (ext1 r)) fun x hx => h x (List.mem_cons_of_mem _ hx)
        rw [flat_len] at h1
        have h2 := Nat.mul_le_mul_right (4 ^ l.length) (Nat.mul_le_mul_left told.length (h r List.mem_cons_self))
        rw [List.length_cons, Nat.pow_succ, Nat.mul_comm (4 ^ l.length) 4, ← Nat.mul_assoc]
        exact Nat.le_trans h1 h2
    have h1 := key rs [[]] fun r h => (hb4 r h).1
    have h2 : 4 ^ rs.length ≤ 4 ^ 3 := Nat.pow_le_pow_right (by decide) hl
    unfold pts
    simp at h1
    omega
  have e1 := least_ev hl hb4 hc (by omega) hp
  obtain ⟨ok1, ok2⟩ := bf_ok hb (rs.length + 1) 1 (bf0 rs) _ _ _ (init rs cs)
  have solve_of : ∀ d0 d1 z, m_solve_all [d0, d1] = some (z, [none, none]) → d0.own = false → d1.own = false → m_solve [d0, d1] = some (z, [none, none]) := fun d0 d1 z h o1 o2 => by
    simp [m_solve, fnM_r, b_solve, nmv_of o1, nmv_of o2, o1, o2, h]
  have e4 : cEq (.lst true [.lst false (rs.map prD), .lst false (cs.map tpD)]) (.lst false [.lst false (rs.map prD), .lst false (cs.map tpD)]) = some true := cEq_self (nice_sys rs cs) (by decide) rfl fun x z => by cases z
  have told : ∀ z, (∀ d0 d1, IsSeq d0 (rs.map prD) → IsSeq d1 (cs.map tpD) → m_solve [d0, d1] = some (z, [none, none])) → ∀ r3, t__law_answered_3 [some (.lst false (rs.map prD)), some (.lst false (cs.map tpD)), some (.bl b), r3, some (.lst true [.lst false (rs.map prD), .lst false (cs.map tpD)]), none] =
      some (.nx, [some (.lst false (rs.map prD)), some (.lst false (cs.map tpD)), some (.bl b), r3, some (.lst true [.lst false (rs.map prD), .lst false (cs.map tpD)]), some z]) := fun z hz r3 => by
    have z1 := hz _ _ (.inl rfl) (.inl rfl)
    have z2 := hz _ _ (.inr rfl) (.inr rfl)
    cases b <;> simp [t__law_answered_3, z1, z2]
  have a4 : ∀ r3 z, t__law_answered_4 [some (.lst false (rs.map prD)), some (.lst false (cs.map tpD)), some (.bl b), r3, some (.lst true [.lst false (rs.map prD), .lst false (cs.map tpD)]), some z] = some (.nx, [some (.lst false (rs.map prD)), some (.lst false (cs.map tpD)), some (.bl b), r3, some (.lst true [.lst false (rs.map prD), .lst false (cs.map tpD)]), some z]) := fun r3 z => by
    simp [t__law_answered_4, e4]
  rw [m__law_answered, fnM_r, b__law_answered]
  cases hbf : (bf (listed rs cs) (rs.length + 1) (bf0 rs)).1 with
  | true =>
    obtain ⟨hne, hpt⟩ := done_least hb (ok1 hbf)
    rw [if_neg hne] at e1
    have ans : ∀ d0 d1, IsSeq d0 (rs.map prD) → IsSeq d1 (cs.map tpD) → m_solve [d0, d1] = some (.tup [.str "point", ptD (least rs.length (found rs cs))], [none, none]) := fun d0 d1 h0 h1 => by
      have h := (so_ev h0 h1 (by omega) (by omega) hb).1 hbf
      rw [hpt] at h
      exact solve_of d0 d1 _ h (by rcases h0 with rfl | rfl <;> rfl) (by rcases h1 with rfl | rfl <;> rfl)
    have a3 := told _ ans (some (ptD (least rs.length (found rs cs))))
    have sm := same_ans (least rs.length (found rs cs)) (by simp [least]; omega)
    have nn : MP.isNon (ptD (least rs.length (found rs cs))) = false := rfl
    simp [t__law_answered_1, e1, t__law_answered_2, a3, a4, t__law_answered_5, nn, sm]
  | false =>
    obtain ⟨T', R', t', I', hnd⟩ := ok2 hbf (by omega)
    rw [show 1 + (rs.length + 1) - 1 = rs.length + 1 by omega] at I'
    obtain ⟨v, q, hv, hq, hcc, hcy, ecw⟩ := cw_ev hb (by omega) I' rfl hnd
    have nof : found rs cs = [] := by
      cases hf : found rs cs with
      | nil => rfl
      | cons x l =>
        have hx : x ∈ found rs cs := by rw [hf]; exact List.mem_cons_self
        exact (I'.nofea hb hv hcc hcy _ (found_fea.mp hx).2).elim
    rw [if_pos nof] at e1
    have wk := walk_ev (by omega) (by omega) hb I' hv (by omega) hcc hcy
    have ans : ∀ d0 d1, IsSeq d0 (rs.map prD) → IsSeq d1 (cs.map tpD) → m_solve [d0, d1] = some (.tup [.str "cycle", .tup (psD (listed rs cs) (bf (listed rs cs) (rs.length + 1) (bf0 rs)).2 v q).reverse], [none, none]) := fun d0 d1 h0 h1 => by
      have h := (so_ev h0 h1 (by omega) (by omega) hb).2 hbf _ rfl ecw
      exact solve_of d0 d1 _ h (by rcases h0 with rfl | rfl <;> rfl) (by rcases h1 with rfl | rfl <;> rfl)
    have a3 := told _ ans (some .non)
    simp [t__law_answered_1, e1, t__law_answered_2, a3, a4, t__law_answered_5, t__law_answered_6, t__law_answered_7, wk]
theorem law_ev (ns : List Int) : ∃ outs, m_law [.fro (ns.map D.int)] = some (.bl true, outs) := by
  obtain ⟨p0, hp0, e0⟩ := pool_ev ns 0
  obtain ⟨rs, cs, p1, hp1, hl, hr, hcl, hc, e1⟩ := system_ev hp0
  obtain ⟨r, p2, hp2, _, _, e2⟩ := draw_ev hp1 (m := 2) (by decide) (by decide)
  obtain ⟨p3, hp3, e3⟩ := pool_ev ns 1
  obtain ⟨rs', cs', p4, hp4, hl', hr', hcl', hc', e4⟩ := system_ev hp3
  have w1 := answered_ev hl hr hcl hc
  have w2 := answered_ev hl' hr' hcl' hc'
  rw [m_law, fnM_r, b_law]
  have z0 : ((0 : Nat) : Int) = 0 := rfl
  have z1 : ((1 : Nat) : Int) = 1 := rfl
  rw [z0] at e0
  rw [z1] at e3
  have n0 : p0.own = true := by obtain ⟨_, _, _, rfl⟩ := hp0; rfl
  refine ⟨[none], ?_⟩
  simp [t_law_1, e0, t_law_2, e1, t_law_3, e2, t_law_4, e3, e4, t_law_5, w1, t_law_6, w2, t_law_7]
end Lk17

/-! k17: the law holds. -/
namespace Lk17
open PySem L2 MP
theorem run (w : World) : HandSHeadRun.RunEq R (PySem.W.view R.prog [18]) hk ob 1500 ["range_triples", "shorten", "closed_walk", "solve_all", "solve", "_law_pool", "_law_draw", "_law_pick", "_law_same", "_law_whole", "_law_walk_ok", "_law_system", "_law_points", "_law_solves", "_law_least_point", "_law_answered"] w := by
  intro os
  kernel_rfl
end Lk17
open PySem PySem.W PySem.Calls PyProof.Rows
theorem PySem.Challenge.cw_testmill_k17_solve_small_systems_holds : PySem.Challenge.rw_testmill_k17_solve_small_systems.Holds := by
  w_on; o_law
  refine HandSHeadRun.head_any (r := OpenLaw.row PySem.Challenge.rw_testmill_k17_solve_small_systems) (q := view (OpenLaw.row PySem.Challenge.rw_testmill_k17_solve_small_systems).prog [18]) (H := Lk17.hk) (ob := Lk17.ob) (M := 1500) (loose := ["range_triples", "shorten", "closed_walk", "solve_all", "solve", "_law_pool", "_law_draw", "_law_pick", "_law_same", "_law_whole", "_law_walk_ok", "_law_system", "_law_points", "_law_solves", "_law_least_point", "_law_answered"]) (d := HandSHeadRun.topDef (OpenLaw.row PySem.Challenge.rw_testmill_k17_solve_small_systems).prog 18) (kwd := []) Lk17.ob_eq
    (by kernel_rfl) (fun s => by kernel_rfl) Lk17.run (by kernel_rfl) (by kernel_rfl) (by kernel_rfl) (by rfl) (by first | assumption | decide +kernel) (by decide +kernel) ⟨rfl, rfl, rfl, rfl, rfl, by decide +kernel⟩ ?hw ?hc
  case hw => w_witness2
  case hc =>
    refine L2.walk_ofE (l := PySem.Challenge.rw_testmill_k17_solve_small_systems) (n := 63) (k := 10) (x := "script") (CX := L2.CX0) rfl (by decide) (by kernel_rfl) ⟨rfl, by decide, by decide⟩ ?F (fun _ _ _ _ z => z)
    intro w mg fa h Y G hmg0
    obtain ⟨K, KX, c⟩ := Y
    have hmg : mg ("law" : PySem.Str) = some (.ref fa) := by
      have e : (HandSHeadRun.topDef (OpenLaw.row PySem.Challenge.rw_testmill_k17_solve_small_systems).prog 18).name = ("law" : PySem.Str) := by kernel_rfl
      rw [← e]
      exact hmg0
    obtain ⟨fd, hb, hF⟩ := Lk17.facts (P := (PySem.Challenge.rw_testmill_k17_solve_small_systems).prog) (w := w) KX G hmg c
    exact ⟨K, fd, MP.spM K [false] Lk17.m_law, KX, hb, fun H a ns hl _ hS => MP.law_start hS (Lk17.law_ev ns), hF⟩

