import PyProof.Rows.All
import HandS.ForMost
import HandS.ForExc
import HandS.IsInst
import HandS.Flow
import HandS.Wide
import HandS.Walk
import HandS.TupAny
import HandS.Deep
import HandS.More
import HandS.TupMul
import HandS.StrMore
import HandS.Sort
import HandS.SortInts
import HandS.Conv
import HandS.FStr
import HandS.Style
import HandS.TryOnly
import PySem.Challenge.RW_sunderow_k41_indices_of_a_result
set_option Elab.async false
set_option linter.all false
set_option maxRecDepth 100000
set_option maxHeartbeats 2000000
/-! The data layer, part A: deep values over a frozen part of the heap, judgements and their lifting. -/
namespace DL
open PySem L2

/-- deep data; dic: keys and values in one order; bag: the law's own bag -/
inductive DV where
  | non | bl (b : Bool) | int (i : Int) | str (x : Str)
  | tup (xs : List DV) | lst (xs : List DV)
  | dic (ks : List Key) (vs : List DV)
  | obj (C : Addr) (ns : List Str) (vs : List DV)
  | bag (a : Addr)
  | ty (n : String)
  | cls (C : Addr)
  | lsa (a : Addr) (xs : List DV)

/-- a world: what is frozen, what is a cell of a fixed kind -/
structure Wo where
  fz : Addr → Option HO
  ce : Addr → Option (HO → Prop)

def Wo.add (F : Wo) (p : Addr) (o : HO) : Wo := ⟨fun b => if b = p then some o else F.fz b, F.ce⟩
def Ext (F F' : Wo) : Prop := (∀ a o, F.fz a = some o → F'.fz a = some o) ∧ (∀ a f, F.ce a = some f → F'.ce a = some f)
theorem Ext.refl (F : Wo) : Ext F F := ⟨fun _ _ h => h, fun _ _ h => h⟩
theorem Ext.trans {F G I : Wo} (h : Ext F G) (k : Ext G I) : Ext F I := ⟨fun a o e => k.1 a o (h.1 a o e), fun a o e => k.2 a o (h.2 a o e)⟩
theorem Ext.add {F : Wo} {p : Addr} {o : HO} (h : F.fz p = none) : Ext F (F.add p o) := by
  refine ⟨fun a u e => ?_, fun _ _ e => e⟩
  show (if a = p then some o else F.fz a) = some u
  by_cases c : a = p
  · subst c; rw [h] at e; cases e
  · rw [if_neg c]; exact e
theorem Wo.add_same {F : Wo} {p : Addr} {o : HO} : (F.add p o).fz p = some o := if_pos rfl
theorem Wo.add_ne {F : Wo} {p a : Addr} {o : HO} (h : a ≠ p) : (F.add p o).fz a = F.fz a := if_neg h

/-- the bag: the cells' list at q, how many are used, the rest of a great one, the salt -/
def BagI (q : Addr) (n : Nat) (o : HO) : Prop := ∃ i c s : Int, o = .lst [.ref q, .int i, .int c, .int s] ∧ 0 ≤ i ∧ i ≤ n ∧ 0 ≤ c ∧ 0 ≤ s ∧ s < 2147483647
def BagAt (F : Wo) (a : Addr) : Prop := ∃ (q : Addr) (cs : List Int), F.fz q = some (.lst (cs.map V.int)) ∧ cs.length ≤ 63 ∧ F.ce a = some (BagI q cs.length)

mutual
def Rep (F : Wo) : DV → V → Prop
  | .non, v => v = .non
  | .bl b, v => v = .bl b
  | .int i, v => v = .int i
  | .str x, v => v = .str x
  | .tup xs, v => ∃ a vs, v = .ref a ∧ F.fz a = some (.tup vs) ∧ Reps F xs vs
  | .lst xs, v => ∃ a vs, v = .ref a ∧ F.fz a = some (.lst vs) ∧ Reps F xs vs
  | .dic ks xs, v => ∃ a kvs, v = .ref a ∧ F.fz a = some (.dK kvs) ∧ kvs.map (·.1) = ks ∧ Reps F xs (kvs.map (·.2))
  | .obj C ns xs, v => ∃ a dx fs, v = .ref a ∧ F.fz a = some (.ins C dx fs) ∧ fs.map (·.1) = ns ∧ Reps F xs (fs.map (·.2))
  | .bag a, v => v = .ref a ∧ BagAt F a
  | .ty n, v => v = .ty n
  | .cls C, v => v = .ref C
  | .lsa a xs, v => v = .ref a ∧ ∃ vs, F.fz a = some (.lst vs) ∧ Reps F xs vs
def Reps (F : Wo) : List DV → List V → Prop
  | [], vs => vs = []
  | x :: xs, vs => ∃ v r, vs = v :: r ∧ Rep F x v ∧ Reps F xs r
end

mutual
theorem Rep.mono {F F' : Wo} (h : Ext F F') : ∀ {d : DV} {v : V}, Rep F d v → Rep F' d v
  | .non, _, r => by unfold Rep at *; exact r
  | .bl _, _, r => by unfold Rep at *; exact r
  | .int _, _, r => by unfold Rep at *; exact r
  | .str _, _, r => by unfold Rep at *; exact r
  | .tup xs, _, r => by unfold Rep at *; obtain ⟨a, vs, e, f, q⟩ := r; exact ⟨a, vs, e, h.1 _ _ f, Reps.mono h q⟩
  | .lst xs, _, r => by unfold Rep at *; obtain ⟨a, vs, e, f, q⟩ := r; exact ⟨a, vs, e, h.1 _ _ f, Reps.mono h q⟩
  | .dic ks xs, _, r => by unfold Rep at *; obtain ⟨a, vs, e, f, k, q⟩ := r; exact ⟨a, vs, e, h.1 _ _ f, k, Reps.mono h q⟩
  | .obj C ns xs, _, r => by unfold Rep at *; obtain ⟨a, dx, vs, e, f, k, q⟩ := r; exact ⟨a, dx, vs, e, h.1 _ _ f, k, Reps.mono h q⟩
  | .bag a, _, r => by unfold Rep at *; obtain ⟨e, q, cs, f, l, g⟩ := r; exact ⟨e, q, cs, h.1 _ _ f, l, h.2 _ _ g⟩
  | .ty _, _, r => by unfold Rep at *; exact r
  | .cls _, _, r => by unfold Rep at *; exact r
  | .lsa a xs, _, r => by unfold Rep at *; obtain ⟨e, vs, f, q⟩ := r; exact ⟨e, vs, h.1 _ _ f, Reps.mono h q⟩
theorem Reps.mono {F F' : Wo} (h : Ext F F') : ∀ {ds : List DV} {vs : List V}, Reps F ds vs → Reps F' ds vs
  | [], _, r => by unfold Reps at *; exact r
  | d :: ds, _, r => by unfold Reps at *; obtain ⟨v, w, e, q, k⟩ := r; exact ⟨v, w, e, Rep.mono h q, Reps.mono h k⟩
end

section reps
variable {F : Wo}
theorem reps_nil {vs : List V} : Reps F [] vs ↔ vs = [] := by unfold Reps; exact Iff.rfl
theorem reps_cons {d : DV} {ds : List DV} {vs : List V} : Reps F (d :: ds) vs ↔ ∃ v r, vs = v :: r ∧ Rep F d v ∧ Reps F ds r := by
  constructor
  · intro h; unfold Reps at h; exact h
  · intro h; unfold Reps; exact h
theorem Reps.cons {d : DV} {ds : List DV} {v : V} {vs : List V} (h : Rep F d v) (k : Reps F ds vs) : Reps F (d :: ds) (v :: vs) := reps_cons.mpr ⟨v, vs, rfl, h, k⟩
theorem Reps.nil : Reps F [] [] := reps_nil.mpr rfl
theorem Reps.length : ∀ {ds : List DV} {vs : List V}, Reps F ds vs → ds.length = vs.length
  | [], _, h => by rw [reps_nil.mp h]; rfl
  | d :: ds, _, h => by obtain ⟨v, r, rfl, _, k⟩ := reps_cons.mp h; simp [Reps.length k]
theorem Reps.get : ∀ {ds : List DV} {vs : List V} {i : Nat} {d : DV}, Reps F ds vs → ds[i]? = some d → ∃ v, vs[i]? = some v ∧ Rep F d v
  | [], _, _, _, _, e => by simp at e
  | _ :: _, _, 0, _, h, e => by obtain ⟨v, r, rfl, k, _⟩ := reps_cons.mp h; simp at e; subst e; exact ⟨v, rfl, k⟩
  | _ :: _, _, i + 1, _, h, e => by obtain ⟨v, r, rfl, _, k⟩ := reps_cons.mp h; simpa using Reps.get k (by simpa using e)
theorem Reps.getV : ∀ {ds : List DV} {vs : List V} {i : Nat} {v : V}, Reps F ds vs → vs[i]? = some v → ∃ d, ds[i]? = some d ∧ Rep F d v
  | [], _, _, _, h, e => by rw [reps_nil.mp h] at e; simp at e
  | d :: _, _, 0, _, h, e => by obtain ⟨v, r, rfl, k, _⟩ := reps_cons.mp h; simp at e; subst e; exact ⟨d, rfl, k⟩
  | _ :: _, _, i + 1, _, h, e => by obtain ⟨v, r, rfl, _, k⟩ := reps_cons.mp h; simpa using Reps.getV k (by simpa using e)
theorem Reps.append : ∀ {ds es : List DV} {vs ws : List V}, Reps F ds vs → Reps F es ws → Reps F (ds ++ es) (vs ++ ws)
  | [], _, _, _, h, k => by rw [reps_nil.mp h]; exact k
  | _ :: _, _, _, _, h, k => by obtain ⟨v, r, rfl, q, t⟩ := reps_cons.mp h; exact Reps.cons q (Reps.append t k)
theorem Reps.take : ∀ {ds : List DV} {vs : List V} (n : Nat), Reps F ds vs → Reps F (ds.take n) (vs.take n)
  | _, _, 0, _ => by simp [reps_nil]
  | [], _, n + 1, h => by rw [reps_nil.mp h]; simp [reps_nil]
  | _ :: _, _, n + 1, h => by obtain ⟨v, r, rfl, q, t⟩ := reps_cons.mp h; exact Reps.cons q (Reps.take n t)
theorem Reps.drop : ∀ {ds : List DV} {vs : List V} (n : Nat), Reps F ds vs → Reps F (ds.drop n) (vs.drop n)
  | _, _, 0, h => h
  | [], _, n + 1, h => by rw [reps_nil.mp h]; simp [reps_nil]
  | _ :: _, _, n + 1, h => by obtain ⟨v, r, rfl, q, t⟩ := reps_cons.mp h; exact Reps.drop n t
theorem Reps.set {d : DV} {v : V} (hd : Rep F d v) : ∀ {ds : List DV} {vs : List V} (i : Nat), Reps F ds vs → Reps F (ds.set i d) (vs.set i v)
  | [], _, _, h => by rw [reps_nil.mp h]; simp [reps_nil]
  | _ :: _, _, 0, h => by obtain ⟨v, r, rfl, q, t⟩ := reps_cons.mp h; exact Reps.cons hd t
  | _ :: _, _, i + 1, h => by obtain ⟨v, r, rfl, q, t⟩ := reps_cons.mp h; exact Reps.cons q (Reps.set hd i t)
theorem Reps.reverse : ∀ {ds : List DV} {vs : List V}, Reps F ds vs → Reps F ds.reverse vs.reverse
  | [], _, h => by rw [reps_nil.mp h]; simp [reps_nil]
  | _ :: _, _, h => by
    obtain ⟨v, r, rfl, q, t⟩ := reps_cons.mp h
    simp only [List.reverse_cons]
    exact Reps.append (Reps.reverse t) (Reps.cons q Reps.nil)
theorem rep_non {v : V} : Rep F .non v ↔ v = .non := by unfold Rep; exact Iff.rfl
theorem rep_bl {v : V} {b : Bool} : Rep F (.bl b) v ↔ v = .bl b := by unfold Rep; exact Iff.rfl
theorem rep_int {v : V} {i : Int} : Rep F (.int i) v ↔ v = .int i := by unfold Rep; exact Iff.rfl
theorem rep_str {v : V} {x : Str} : Rep F (.str x) v ↔ v = .str x := by unfold Rep; exact Iff.rfl
theorem rep_ty {v : V} {n : String} : Rep F (.ty n) v ↔ v = .ty n := by unfold Rep; exact Iff.rfl
theorem rep_cls {v : V} {C : Addr} : Rep F (.cls C) v ↔ v = .ref C := by unfold Rep; exact Iff.rfl
theorem rep_lsa {v : V} {a : Addr} {xs : List DV} : Rep F (.lsa a xs) v ↔ v = .ref a ∧ ∃ vs, F.fz a = some (.lst vs) ∧ Reps F xs vs := by
  constructor <;> (intro h; unfold Rep at *; exact h)
theorem rep_tup {v : V} {xs : List DV} : Rep F (.tup xs) v ↔ ∃ a vs, v = .ref a ∧ F.fz a = some (.tup vs) ∧ Reps F xs vs := by
  constructor <;> (intro h; unfold Rep at *; exact h)
theorem rep_lst {v : V} {xs : List DV} : Rep F (.lst xs) v ↔ ∃ a vs, v = .ref a ∧ F.fz a = some (.lst vs) ∧ Reps F xs vs := by
  constructor <;> (intro h; unfold Rep at *; exact h)
theorem rep_dic {v : V} {ks : List Key} {xs : List DV} : Rep F (.dic ks xs) v ↔ ∃ a kvs, v = .ref a ∧ F.fz a = some (.dK kvs) ∧ kvs.map (·.1) = ks ∧ Reps F xs (kvs.map (·.2)) := by
  constructor <;> (intro h; unfold Rep at *; exact h)
theorem rep_obj {v : V} {C : Addr} {ns : List Str} {xs : List DV} : Rep F (.obj C ns xs) v ↔ ∃ a dx fs, v = .ref a ∧ F.fz a = some (.ins C dx fs) ∧ fs.map (·.1) = ns ∧ Reps F xs (fs.map (·.2)) := by
  constructor <;> (intro h; unfold Rep at *; exact h)
theorem rep_bag {v : V} {a : Addr} : Rep F (.bag a) v ↔ v = .ref a ∧ BagAt F a := by
  constructor <;> (intro h; unfold Rep at *; exact h)
end reps

/-- a local: a value that stands still, or an object of this def's own making -/
inductive Lv where
  | val (d : DV)
  | own (d : DV)
abbrev DSt := List (Option Lv)

/-- a def's entry, and what stands loose beside the locals (a list that a comprehension builds) -/
structure Bs where
  F : Wo
  H : Hp
  L : Addr → Option HO := fun _ => none
def Bs.loose (B : Bs) (p : Addr) (o : HO) : Bs := ⟨B.F, B.H, fun a => if a = p then some o else B.L a⟩

structure Wd (B : Bs) (F : Wo) (H : Hp) : Prop where
  ext : Ext B.F F
  fz : ∀ a o, F.fz a = some o → H a = some o ∨ ((∃ kvs, o = .dK kvs) ∧ ∃ ob, H a = some (.frz ob o))
  ce : ∀ a f, F.ce a = some f → ∃ o, H a = some o ∧ f o
  nfz : ∀ a o, F.fz a = some o → B.F.fz a = some o ∨ B.H a = none
  nce : ∀ a f, F.ce a = some f → B.F.ce a = some f ∨ B.H a = none
  fr : ∀ a o, B.H a = some o → B.F.ce a = none → H a = some o ∨ (B.F.fz a = some o ∧ (∃ kvs, o = .dK kvs) ∧ ∃ ob, H a = some (.frz ob o))
  dj : ∀ a o, F.fz a = some o → F.ce a = none
  lo : ∀ a o, B.L a = some o → H a = some o ∧ B.H a = none ∧ F.fz a = none ∧ F.ce a = none

/-- an own object's content -/
def OwnAt (F : Wo) (H : Hp) (p : Addr) : DV → Prop
  | .lst ds => ∃ vs, H p = some (.lst vs) ∧ Reps F ds vs
  | .dic ks ds => ∃ kvs, H p = some (.dK kvs) ∧ kvs.map (·.1) = ks ∧ Reps F ds (kvs.map (·.2))
  | .obj C ns ds => ∃ dx fs, H p = some (.ins C dx fs) ∧ fs.map (·.1) = ns ∧ Reps F ds (fs.map (·.2))
  | .lsa a ds => p = a ∧ ∃ vs, H p = some (.lst vs) ∧ Reps F ds vs
  | _ => False

theorem OwnAt.there {F : Wo} {H : Hp} {p : Addr} {d : DV} (h : OwnAt F H p d) : ∃ o, H p = some o := by
  cases d <;> first
    | (obtain ⟨vs, e, _⟩ := h; exact ⟨_, e⟩)
    | (obtain ⟨x, vs, e, _⟩ := h; exact ⟨_, e⟩)
    | (obtain ⟨x, vs, e, _⟩ := h; exact ⟨_, e⟩)
    | exact False.elim h
theorem OwnAt.keep {F F' : Wo} {H H' : Hp} {p : Addr} {d : DV} (h : OwnAt F H p d) (e : Ext F F') (k : ∀ o, H p = some o → H' p = some o) : OwnAt F' H' p d := by
  cases d <;> first
    | (obtain ⟨vs, z, r⟩ := h; exact ⟨vs, k _ z, r.mono e⟩)
    | (obtain ⟨vs, z, y, r⟩ := h; exact ⟨vs, k _ z, y, r.mono e⟩)
    | (obtain ⟨x, vs, z, y, r⟩ := h; exact ⟨x, vs, k _ z, y, r.mono e⟩)
    | (obtain ⟨x, vs, z, r⟩ := h; exact ⟨x, vs, k _ z, r.mono e⟩)
    | exact False.elim h
/-- frozen where it stands -/
theorem OwnAt.freeze {F : Wo} {H : Hp} {p : Addr} {d : DV} (h : OwnAt F H p d) (hn : F.fz p = none) : ∃ o, H p = some o ∧ Rep (F.add p o) d (.ref p) := by
  have e : ∀ o, Ext F (F.add p o) := fun o => Ext.add hn
  cases d <;> first
    | (obtain ⟨vs, z, r⟩ := h; exact ⟨_, z, rep_lst.mpr ⟨p, vs, rfl, Wo.add_same, r.mono (e _)⟩⟩)
    | (obtain ⟨vs, z, y, r⟩ := h; exact ⟨_, z, rep_dic.mpr ⟨p, vs, rfl, Wo.add_same, y, r.mono (e _)⟩⟩)
    | (obtain ⟨x, vs, z, y, r⟩ := h; exact ⟨_, z, rep_obj.mpr ⟨p, x, vs, rfl, Wo.add_same, y, r.mono (e _)⟩⟩)
    | (obtain ⟨rfl, vs, z, r⟩ := h; exact ⟨_, z, rep_lsa.mpr ⟨rfl, vs, Wo.add_same, r.mono (e _)⟩⟩)
    | exact False.elim h

structure RSt (B : Bs) (F : Wo) (ρ : DSt) (σ : St) (H : Hp) : Prop where
  val : ∀ (i : Nat) (d : DV), ρ[i]? = some (some (Lv.val d)) → ∃ v, σ[i]? = some (some v) ∧ Rep F d v
  own : ∀ (i : Nat) (d : DV), ρ[i]? = some (some (Lv.own d)) → ∃ p, σ[i]? = some (some (.ref p)) ∧ OwnAt F H p d ∧ B.H p = none ∧ F.fz p = none ∧ F.ce p = none ∧ B.L p = none
  dis : ∀ (i j : Nat) (d e : DV) (p : Addr), i ≠ j → ρ[i]? = some (some (Lv.own d)) → ρ[j]? = some (some (Lv.own e)) → σ[i]? = some (some (.ref p)) → σ[j]? ≠ some (some (.ref p))
  len : ρ.length = σ.length

/-- a step that leaves the locals as they are -/
structure Stp (B : Bs) (F : Wo) (H : Hp) (F' : Wo) (H' : Hp) : Prop where
  wd : Wd B F' H'
  ext : Ext F F'
  st : ∀ ρ σ, RSt B F ρ σ H → RSt B F' ρ σ H'
theorem Stp.refl {B : Bs} {F : Wo} {H : Hp} (w : Wd B F H) : Stp B F H F H := ⟨w, Ext.refl F, fun _ _ r => r⟩
theorem Stp.trans {B : Bs} {F F1 F2 : Wo} {H H1 H2 : Hp} (a : Stp B F H F1 H1) (b : Stp B F1 H1 F2 H2) : Stp B F H F2 H2 :=
  ⟨b.wd, a.ext.trans b.ext, fun ρ σ r => b.st ρ σ (a.st ρ σ r)⟩

section
variable {B : Bs} {F F' : Wo} {H H' : Hp} {p : Addr} {o : HO} {ρ : DSt} {σ : St}
theorem Wd.start (F : Wo) (H : Hp) (h : ∀ a o, F.fz a = some o → H a = some o ∨ ((∃ kvs, o = .dK kvs) ∧ ∃ ob, H a = some (.frz ob o))) (k : ∀ a f, F.ce a = some f → ∃ o, H a = some o ∧ f o)
    (j : ∀ a o, F.fz a = some o → F.ce a = none) : Wd ⟨F, H, fun _ => none⟩ F H :=
  ⟨Ext.refl F, h, k, fun _ _ e => .inl e, fun _ _ e => .inl e, fun _ _ e _ => .inl e, j, fun _ _ e => nomatch e⟩
theorem Wd.new (w : Wd B F H) (hp : H p = none) : B.H p = none := by
  cases e : B.H p with
  | none => rfl
  | some o =>
    cases c : B.F.ce p with
    | none => rcases w.fr p o e c with q | ⟨_, _, _, q⟩ <;> (rw [q] at hp; cases hp)
    | some f =>
      obtain ⟨u, h, _⟩ := w.ce p f (w.ext.2 p f c)
      rw [h] at hp; cases hp
theorem Wd.nf (w : Wd B F H) (hp : H p = none) : F.fz p = none := by
  cases e : F.fz p with
  | none => rfl
  | some o => rcases w.fz p o e with h | ⟨_, _, h⟩ <;> (rw [h] at hp; cases hp)
theorem Wd.nc (w : Wd B F H) (hp : H p = none) : F.ce p = none := by
  cases e : F.ce p with
  | none => rfl
  | some f => obtain ⟨u, h, _⟩ := w.ce p f e; rw [h] at hp; cases hp
/-- a new object, frozen at once -/
theorem Wd.lay (w : Wd B F H) (hp : H p = none) : Stp B F H (F.add p o) (upd H p o) := by
  have nf := w.nf hp
  have ne : ∀ a u, H a = some u → a ≠ p := fun a u e z => by rw [z, hp] at e; cases e
  have x : Ext F (F.add p o) := Ext.add nf
  have kp : ∀ a u, H a = some u → upd H p o a = some u := fun a u e => (upd_ne (ne a u e)).trans e
  refine ⟨⟨w.ext.trans x, fun a u e => ?_, fun a f e => ?_, fun a u e => ?_, fun a f e => w.nce a f e, fun a u e c => (w.fr a u e c).imp (kp a u) (fun ⟨y, z, ob, q⟩ => ⟨y, z, ob, kp a _ q⟩), fun a u e => ?_, fun a u e => ?_⟩, x, fun ρ σ r => ⟨fun i d e => ?_, fun i d e => ?_, r.dis, r.len⟩⟩
  · by_cases c : a = p
    · subst c; rw [Wo.add_same] at e; cases e; exact .inl upd_same
    · rw [Wo.add_ne c] at e
      rcases w.fz a u e with h | ⟨q, ob, h⟩
      · exact .inl (kp _ _ h)
      · exact .inr ⟨q, ob, kp _ _ h⟩
  · obtain ⟨u, h, q⟩ := w.ce a f e; exact ⟨u, kp _ _ h, q⟩
  · by_cases c : a = p
    · subst c; exact .inr (w.new hp)
    · rw [Wo.add_ne c] at e; exact w.nfz a u e
  · by_cases c : a = p
    · subst c; exact w.nc hp
    · rw [Wo.add_ne c] at e; exact w.dj a u e
  · obtain ⟨h, b0, n1, n2⟩ := w.lo a u e
    exact ⟨kp _ _ h, b0, by rw [Wo.add_ne (ne a u h)]; exact n1, n2⟩
  · obtain ⟨v, h, q⟩ := r.val i d e; exact ⟨v, h, q.mono x⟩
  · obtain ⟨a, h, q, b0, n1, n2, n3⟩ := r.own i d e
    obtain ⟨u, hu⟩ := q.there
    exact ⟨a, h, q.keep x (kp a), b0, by rw [Wo.add_ne (ne a u hu)]; exact n1, n2, n3⟩
/-- a new object that stays loose (not frozen yet) -/
theorem Wd.loose (w : Wd B F H) (hp : H p = none) : Stp B F H F (upd H p o) := by
  have ne : ∀ a u, H a = some u → a ≠ p := fun a u e z => by rw [z, hp] at e; cases e
  have kp : ∀ a u, H a = some u → upd H p o a = some u := fun a u e => (upd_ne (ne a u e)).trans e
  refine ⟨⟨w.ext, fun a u e => ?_, fun a f e => ?_, w.nfz, w.nce, fun a u e c => (w.fr a u e c).imp (kp a u) (fun ⟨y, z, ob, q⟩ => ⟨y, z, ob, kp a _ q⟩), w.dj, fun a u e => ⟨kp _ _ (w.lo a u e).1, (w.lo a u e).2⟩⟩, Ext.refl F, fun ρ σ r => ⟨r.val, fun i d e => ?_, r.dis, r.len⟩⟩
  · rcases w.fz a u e with h | ⟨q, ob, h⟩
    · exact .inl (kp _ _ h)
    · exact .inr ⟨q, ob, kp _ _ h⟩
  · obtain ⟨u, h, q⟩ := w.ce a f e; exact ⟨u, kp _ _ h, q⟩
  · obtain ⟨a, h, q, b0, n1, n2, n3⟩ := r.own i d e
    exact ⟨a, h, q.keep (Ext.refl F) (kp a), b0, n1, n2, n3⟩
/-- an object that is loose (known to nobody) is changed -/
theorem Wd.loose_set (w : Wd B F H) (hb : B.H p = none) (h1 : F.fz p = none) (h2 : F.ce p = none) (h3 : B.L p = none) : Wd B F (upd H p o) := by
  refine ⟨w.ext, fun a u e => ?_, fun a f e => ?_, w.nfz, w.nce, fun a u e c => ?_, w.dj, fun a u e => ?_⟩
  · have n : a ≠ p := fun z => by rw [z, h1] at e; cases e
    rcases w.fz a u e with h | ⟨q, ob, h⟩
    · exact .inl ((upd_ne n).trans h)
    · exact .inr ⟨q, ob, (upd_ne n).trans h⟩
  · have n : a ≠ p := fun z => by rw [z, h2] at e; cases e
    obtain ⟨u, h, q⟩ := w.ce a f e; exact ⟨u, (upd_ne n).trans h, q⟩
  · have n : a ≠ p := fun z => by rw [z, hb] at e; cases e
    exact (w.fr a u e c).imp (fun q => (upd_ne n).trans q) (fun ⟨y, z, ob, q⟩ => ⟨y, z, ob, (upd_ne n).trans q⟩)
  · have n : a ≠ p := fun z => by rw [z, h3] at e; cases e
    exact ⟨(upd_ne n).trans (w.lo a u e).1, (w.lo a u e).2⟩
/-- a call's step, as the caller sees it -/
theorem Wd.call (w : Wd B F H) (c : Wd ⟨F, H, fun _ => none⟩ F' H') : Stp B F H F' H' := by
  have x : Ext F F' := c.ext
  refine ⟨⟨w.ext.trans x, c.fz, c.ce, fun a o e => ?_, fun a f e => ?_, fun a o e z => ?_, c.dj, fun a o e => ?_⟩, x, fun ρ σ r => ⟨fun i d e => ?_, fun i d e => ?_, r.dis, r.len⟩⟩
  · rcases c.nfz a o e with h | h
    · exact w.nfz a o h
    · exact .inr (w.new h)
  · rcases c.nce a f e with h | h
    · exact w.nce a f h
    · exact .inr (w.new h)
  · have fc : F.ce a = none := by
      cases q : F.ce a with
      | none => rfl
      | some f =>
        rcases w.nce a f q with h | h
        · rw [z] at h; cases h
        · rw [e] at h; cases h
    rcases w.fr a o e z with h | ⟨h1, h2, ob, h3⟩
    · rcases c.fr a o h fc with k | ⟨k1, k2, k3⟩
      · exact .inl k
      · rcases w.nfz a o k1 with y | y
        · exact .inr ⟨y, k2, k3⟩
        · rw [e] at y; cases y
    · rcases c.fr a _ h3 fc with k | ⟨_, ⟨kvs, k⟩, _⟩
      · exact .inr ⟨h1, h2, ob, k⟩
      · cases k
  · obtain ⟨h, b0, n1, n2⟩ := w.lo a o e
    refine ⟨?_, b0, ?_, ?_⟩
    · rcases c.fr a o h n2 with k | ⟨k, _⟩
      · exact k
      · rw [show F.fz a = none from n1] at k; cases k
    · cases k : F'.fz a with
      | none => rfl
      | some o' =>
        rcases c.nfz a o' k with y | y
        · rw [show F.fz a = none from n1] at y; cases y
        · have y : H a = none := y
          rw [h] at y; cases y
    · cases k : F'.ce a with
      | none => rfl
      | some f =>
        rcases c.nce a f k with y | y
        · rw [show F.ce a = none from n2] at y; cases y
        · have y : H a = none := y
          rw [h] at y; cases y
  · obtain ⟨v, h, q⟩ := r.val i d e; exact ⟨v, h, q.mono x⟩
  · obtain ⟨a, h, q, b0, n1, n2, n3⟩ := r.own i d e
    obtain ⟨u, hu⟩ := q.there
    refine ⟨a, h, q.keep x (fun o z => (c.fr a o z n2).elim id (fun k => absurd (k.1.symm.trans n1) (fun y => nomatch y))), b0, ?_, ?_, n3⟩
    · cases k : F'.fz a with
      | none => rfl
      | some o =>
        rcases c.nfz a o k with y | y
        · rw [n1] at y; cases y
        · have y : H a = none := y
          rw [hu] at y; cases y
    · cases k : F'.ce a with
      | none => rfl
      | some f =>
        rcases c.nce a f k with y | y
        · rw [n2] at y; cases y
        · have y : H a = none := y
          rw [hu] at y; cases y
/-- a frozen dict is known to its object from now on -/
theorem Wd.lock {kvs : List (Key × V)} {ob : Obj} (w : Wd B F H) (hf : F.fz p = some (.dK kvs)) (hp : H p = some (.dK kvs)) : Stp B F H F (upd H p (.frz ob (.dK kvs))) := by
  have hc := w.dj p _ hf
  refine ⟨⟨w.ext, fun a u e => ?_, fun a f e => ?_, w.nfz, w.nce, fun a u e c => ?_, w.dj, fun a u e => ?_⟩, Ext.refl F, fun ρ σ r => ⟨r.val, fun i d e => ?_, r.dis, r.len⟩⟩
  · by_cases c : a = p
    · subst c; rw [hf] at e; cases e; exact .inr ⟨⟨_, rfl⟩, ob, upd_same⟩
    · rw [upd_ne c]; exact w.fz a u e
  · have n : a ≠ p := fun z => by rw [z, hc] at e; cases e
    rw [upd_ne n]; exact w.ce a f e
  · by_cases n : a = p
    · subst n
      rcases w.fr a u e c with q | ⟨_, _, ob', q⟩
      · rw [hp] at q; cases q
        rcases w.nfz a _ hf with y | y
        · exact .inr ⟨y, ⟨_, rfl⟩, ob, upd_same⟩
        · rw [e] at y; cases y
      · rw [hp] at q; cases q
    · rw [upd_ne n]; exact w.fr a u e c
  · obtain ⟨h, b0, n1, n2⟩ := w.lo a u e
    have n : a ≠ p := fun z => by rw [z, hf] at n1; cases n1
    exact ⟨(upd_ne n).trans h, b0, n1, n2⟩
  · obtain ⟨a, h, q, b0, n1, n2, n3⟩ := r.own i d e
    have n : a ≠ p := fun z => by rw [z, hf] at n1; cases n1
    exact ⟨a, h, q.keep (Ext.refl F) fun u k => (upd_ne n).trans k, b0, n1, n2, n3⟩
/-- an own local is frozen -/
theorem Wd.freeze (w : Wd B F H) (r : RSt B F ρ σ H) {i : Nat} {d : DV} (e : ρ[i]? = some (some (Lv.own d))) :
    ∃ p o, σ[i]? = some (some (.ref p)) ∧ Wd B (F.add p o) H ∧ Ext F (F.add p o) ∧ RSt B (F.add p o) (ρ.set i (some (Lv.val d))) σ H ∧ Rep (F.add p o) d (.ref p) := by
  obtain ⟨p, hs, q, b0, n1, n2, n3⟩ := r.own i d e
  obtain ⟨o, ho, rp⟩ := q.freeze n1
  have x : Ext F (F.add p o) := Ext.add n1
  have hi : i < ρ.length := (List.getElem?_eq_some_iff.mp e).1
  refine ⟨p, o, hs, ⟨w.ext.trans x, fun a u z => ?_, w.ce, fun a u z => ?_, w.nce, w.fr, fun a u z => ?_, fun a u z => ?_⟩, x, ⟨fun j f z => ?_, fun j f z => ?_, fun j k f g a hjk z1 z2 => ?_, by rw [List.length_set]; exact r.len⟩, rp⟩
  · by_cases c : a = p
    · subst c; rw [Wo.add_same] at z; cases z; exact .inl ho
    · rw [Wo.add_ne c] at z; exact w.fz a u z
  · by_cases c : a = p
    · subst c; exact .inr b0
    · rw [Wo.add_ne c] at z; exact w.nfz a u z
  · by_cases c : a = p
    · subst c; exact n2
    · rw [Wo.add_ne c] at z; exact w.dj a u z
  · obtain ⟨h, b1, m1, m2⟩ := w.lo a u z
    have nap : a ≠ p := fun k => by rw [k, n3] at z; cases z
    exact ⟨h, b1, by rw [Wo.add_ne nap]; exact m1, m2⟩
  · by_cases c : j = i
    · subst c
      rw [List.getElem?_set_self hi] at z
      cases z
      exact ⟨_, hs, rp⟩
    · rw [List.getElem?_set_ne (Ne.symm c)] at z
      obtain ⟨v, h, y⟩ := r.val j f z
      exact ⟨v, h, y.mono x⟩
  · by_cases c : j = i
    · subst c
      rw [List.getElem?_set_self hi] at z
      cases z
    · rw [List.getElem?_set_ne (Ne.symm c)] at z
      obtain ⟨a, h, y, b1, m1, m2, m3⟩ := r.own j f z
      have nap : a ≠ p := fun k => r.dis i j d f p (Ne.symm c) e z hs (by rw [← k]; exact h)
      exact ⟨a, h, y.keep x fun _ k => k, b1, by rw [Wo.add_ne nap]; exact m1, m2, m3⟩
  · by_cases c : j = i
    · subst c; rw [List.getElem?_set_self hi] at z1; cases z1
    · by_cases c2 : k = i
      · subst c2; rw [List.getElem?_set_self hi] at z2; cases z2
      · rw [List.getElem?_set_ne (Ne.symm c)] at z1
        rw [List.getElem?_set_ne (Ne.symm c2)] at z2
        exact r.dis j k f g a hjk z1 z2
/-- a slot takes a value -/
theorem RSt.put (r : RSt B F ρ σ H) {i : Nat} {d : DV} {v : V} (hi : i < ρ.length) (h : Rep F d v) : RSt B F (ρ.set i (some (Lv.val d))) (σ.set i (some v)) H := by
  have hi2 : i < σ.length := by rw [← r.len]; exact hi
  refine ⟨fun j f z => ?_, fun j f z => ?_, fun j k f g a hjk z1 z2 => ?_, by rw [List.length_set, List.length_set]; exact r.len⟩
  · by_cases c : j = i
    · subst c
      rw [List.getElem?_set_self hi] at z
      cases z
      exact ⟨v, List.getElem?_set_self hi2, h⟩
    · rw [List.getElem?_set_ne (Ne.symm c)] at z
      rw [List.getElem?_set_ne (Ne.symm c)]
      exact r.val j f z
  · by_cases c : j = i
    · subst c; rw [List.getElem?_set_self hi] at z; cases z
    · rw [List.getElem?_set_ne (Ne.symm c)] at z
      rw [List.getElem?_set_ne (Ne.symm c)]
      exact r.own j f z
  · by_cases c : j = i
    · subst c; rw [List.getElem?_set_self hi] at z1; cases z1
    · by_cases c2 : k = i
      · subst c2; rw [List.getElem?_set_self hi] at z2; cases z2
      · rw [List.getElem?_set_ne (Ne.symm c)] at z1 ⊢
        rw [List.getElem?_set_ne (Ne.symm c2)] at z2 ⊢
        exact r.dis j k f g a hjk z1 z2
/-- a slot takes a loose object -/
theorem RSt.putOwn (r : RSt B F ρ σ H) {i : Nat} {d : DV} (hi : i < ρ.length) (h : OwnAt F H p d) (b0 : B.H p = none) (n1 : F.fz p = none) (n2 : F.ce p = none) (n3 : B.L p = none)
    (hd : ∀ (j : Nat) (e : DV), j ≠ i → ρ[j]? = some (some (Lv.own e)) → σ[j]? ≠ some (some (.ref p))) : RSt B F (ρ.set i (some (Lv.own d))) (σ.set i (some (.ref p))) H := by
  have hi2 : i < σ.length := by rw [← r.len]; exact hi
  refine ⟨fun j f z => ?_, fun j f z => ?_, fun j k f g a hjk z1 z2 y1 => ?_, by rw [List.length_set, List.length_set]; exact r.len⟩
  · by_cases c : j = i
    · subst c; rw [List.getElem?_set_self hi] at z; cases z
    · rw [List.getElem?_set_ne (Ne.symm c)] at z
      rw [List.getElem?_set_ne (Ne.symm c)]
      exact r.val j f z
  · by_cases c : j = i
    · subst c
      rw [List.getElem?_set_self hi] at z
      cases z
      exact ⟨p, List.getElem?_set_self hi2, h, b0, n1, n2, n3⟩
    · rw [List.getElem?_set_ne (Ne.symm c)] at z
      rw [List.getElem?_set_ne (Ne.symm c)]
      exact r.own j f z
  · by_cases c : j = i
    · subst c
      rw [List.getElem?_set_self hi2] at y1
      cases y1
      rw [List.getElem?_set_ne (Ne.symm (Ne.symm hjk))] at z2 ⊢
      exact hd k g (Ne.symm hjk) z2
    · rw [List.getElem?_set_ne (Ne.symm c)] at z1 y1
      by_cases c2 : k = i
      · subst c2
        rw [List.getElem?_set_self hi2]
        intro q
        cases q
        exact hd j f c z1 y1
      · rw [List.getElem?_set_ne (Ne.symm c2)] at z2 ⊢
        exact r.dis j k f g a hjk z1 z2 y1
/-- an own local's object is changed -/
theorem RSt.turn (w : Wd B F H) (r : RSt B F ρ σ H) {i : Nat} {d d' : DV} (e : ρ[i]? = some (some (Lv.own d))) (hs : σ[i]? = some (some (.ref p))) (ha : OwnAt F (upd H p o) p d') :
    Wd B F (upd H p o) ∧ RSt B F (ρ.set i (some (Lv.own d'))) σ (upd H p o) := by
  obtain ⟨a, h, q, b0, n1, n2, n3⟩ := r.own i d e
  rw [hs] at h
  cases h
  have hi : i < ρ.length := (List.getElem?_eq_some_iff.mp e).1
  refine ⟨w.loose_set b0 n1 n2 n3, ⟨fun j f z => ?_, fun j f z => ?_, fun j k f g a hjk z1 z2 y1 => ?_, by rw [List.length_set]; exact r.len⟩⟩
  · by_cases c : j = i
    · subst c; rw [List.getElem?_set_self hi] at z; cases z
    · rw [List.getElem?_set_ne (Ne.symm c)] at z; exact r.val j f z
  · by_cases c : j = i
    · subst c
      rw [List.getElem?_set_self hi] at z
      cases z
      exact ⟨p, hs, ha, b0, n1, n2, n3⟩
    · rw [List.getElem?_set_ne (Ne.symm c)] at z
      obtain ⟨a, h, y, b1, m1, m2, m3⟩ := r.own j f z
      have nap : a ≠ p := fun k => r.dis i j d f p (Ne.symm c) e z hs (by rw [← k]; exact h)
      exact ⟨a, h, y.keep (Ext.refl F) fun u k => (upd_ne nap).trans k, b1, m1, m2, m3⟩
  · have z1' : ∃ f', ρ[j]? = some (some (Lv.own f')) := by
      by_cases c : j = i
      · subst c; exact ⟨d, e⟩
      · rw [List.getElem?_set_ne (Ne.symm c)] at z1; exact ⟨f, z1⟩
    have z2' : ∃ f', ρ[k]? = some (some (Lv.own f')) := by
      by_cases c : k = i
      · subst c; exact ⟨d, e⟩
      · rw [List.getElem?_set_ne (Ne.symm c)] at z2; exact ⟨g, z2⟩
    obtain ⟨f', z1'⟩ := z1'
    obtain ⟨g', z2'⟩ := z2'
    exact r.dis j k f' g' a hjk z1' z2' y1
theorem Wd.nl (w : Wd B F H) (hp : H p = none) : B.L p = none := by
  cases e : B.L p with
  | none => rfl
  | some o => rw [(w.lo p o e).1] at hp; cases hp
/-- a new loose object: the base knows it -/
theorem Wd.loosen (w : Wd B F H) (hp : H p = none) : Wd (B.loose p o) F (upd H p o) ∧ ∀ ρ σ, RSt B F ρ σ H → RSt (B.loose p o) F ρ σ (upd H p o) := by
  have s := w.loose (o := o) hp
  refine ⟨⟨s.wd.ext, s.wd.fz, s.wd.ce, s.wd.nfz, s.wd.nce, s.wd.fr, s.wd.dj, fun a u e => ?_⟩, fun ρ σ r => ⟨(s.st ρ σ r).val, fun i d e => ?_, r.dis, r.len⟩⟩
  · by_cases c : a = p
    · subst c
      have e : (if a = a then some o else B.L a) = some u := e
      rw [if_pos rfl] at e; cases e
      exact ⟨upd_same, w.new hp, w.nf hp, w.nc hp⟩
    · have e : (if a = p then some o else B.L a) = some u := e
      rw [if_neg c] at e
      exact s.wd.lo a u e
  · obtain ⟨a, h, q, b0, n1, n2, n3⟩ := (s.st ρ σ r).own i d e
    obtain ⟨a', h', q', _⟩ := r.own i d e
    rw [h] at h'; cases h'
    obtain ⟨u, hu⟩ := q'.there
    have c : a ≠ p := fun z => by rw [z, hp] at hu; cases hu
    exact ⟨a, h, q, b0, n1, n2, by show (if a = p then some o else B.L a) = none; rw [if_neg c]; exact n3⟩
/-- a loose object is changed -/
theorem Wd.reloose {u : HO} (w : Wd (B.loose p o) F H) : Wd (B.loose p u) F (upd H p u) ∧ ∀ ρ σ, RSt (B.loose p o) F ρ σ H → RSt (B.loose p u) F ρ σ (upd H p u) := by
  have hl : (B.loose p o).L p = some o := if_pos rfl
  obtain ⟨hp, b0, n1, n2⟩ := w.lo p o hl
  refine ⟨⟨w.ext, fun a x e => ?_, fun a f e => ?_, w.nfz, w.nce, fun a x e c => ?_, w.dj, fun a x e => ?_⟩, fun ρ σ r => ⟨r.val, fun i d e => ?_, r.dis, r.len⟩⟩
  · have n : a ≠ p := fun z => by rw [z, n1] at e; cases e
    rw [upd_ne n]; exact w.fz a x e
  · have n : a ≠ p := fun z => by rw [z, n2] at e; cases e
    rw [upd_ne n]; exact w.ce a f e
  · have n : a ≠ p := fun z => by rw [z] at e; have e : B.H p = some x := e; rw [show B.H p = none from b0] at e; cases e
    rw [upd_ne n]; exact w.fr a x e c
  · by_cases n : a = p
    · subst n
      have e : (if a = a then some u else B.L a) = some x := e
      rw [if_pos rfl] at e; cases e
      exact ⟨upd_same, b0, n1, n2⟩
    · have e : (if a = p then some u else B.L a) = some x := e
      rw [if_neg n] at e
      have := w.lo a x (by show (if a = p then some o else B.L a) = some x; rw [if_neg n]; exact e)
      exact ⟨(upd_ne n).trans this.1, this.2⟩
  · obtain ⟨a, h, q, c0, m1, m2, m3⟩ := r.own i d e
    have m3 : (if a = p then some o else B.L a) = none := m3
    have n : a ≠ p := fun z => by rw [if_pos z] at m3; cases m3
    rw [if_neg n] at m3
    exact ⟨a, h, q.keep (Ext.refl F) fun u k => (upd_ne n).trans k, c0, m1, m2, by show (if a = p then some u else B.L a) = none; rw [if_neg n]; exact m3⟩
/-- a loose object is frozen -/
theorem Wd.fix (w : Wd (B.loose p o) F H) (hn : B.L p = none) : Wd B (F.add p o) H ∧ Ext F (F.add p o) ∧ ∀ ρ σ, RSt (B.loose p o) F ρ σ H → RSt B (F.add p o) ρ σ H := by
  have hl : (B.loose p o).L p = some o := if_pos rfl
  obtain ⟨hp, b0, n1, n2⟩ := w.lo p o hl
  have x : Ext F (F.add p o) := Ext.add n1
  refine ⟨⟨w.ext.trans x, fun a u z => ?_, w.ce, fun a u z => ?_, w.nce, w.fr, fun a u z => ?_, fun a u z => ?_⟩, x, fun ρ σ r => ⟨fun i d e => ?_, fun i d e => ?_, r.dis, r.len⟩⟩
  · by_cases c : a = p
    · subst c; rw [Wo.add_same] at z; cases z; exact .inl hp
    · rw [Wo.add_ne c] at z; exact w.fz a u z
  · by_cases c : a = p
    · subst c; exact .inr b0
    · rw [Wo.add_ne c] at z; exact w.nfz a u z
  · by_cases c : a = p
    · subst c; exact n2
    · rw [Wo.add_ne c] at z; exact w.dj a u z
  · have n : a ≠ p := fun c => by rw [c, hn] at z; cases z
    obtain ⟨h, b1, m1, m2⟩ := w.lo a u (by show (if a = p then some o else B.L a) = some u; rw [if_neg n]; exact z)
    exact ⟨h, b1, by rw [Wo.add_ne n]; exact m1, m2⟩
  · obtain ⟨v, h, q⟩ := r.val i d e; exact ⟨v, h, q.mono x⟩
  · obtain ⟨a, h, q, c0, m1, m2, m3⟩ := r.own i d e
    have m3 : (if a = p then some o else B.L a) = none := m3
    have n : a ≠ p := fun z => by rw [if_pos z] at m3; cases m3
    rw [if_neg n] at m3
    exact ⟨a, h, q.keep x fun _ k => k, c0, by rw [Wo.add_ne n]; exact m1, m2, m3⟩
/-- slots are forgotten -/
theorem RSt.drop (r : RSt B F ρ σ H) (i : Nat) : RSt B F (ρ.set i none) σ H := by
  have key : ∀ {j : Nat} {x : Lv}, (ρ.set i none)[j]? = some (some x) → ρ[j]? = some (some x) := fun {j x} z => by
    by_cases c : j = i
    · subst c
      by_cases hi : j < ρ.length
      · rw [List.getElem?_set_self hi] at z; cases z
      · rw [List.getElem?_eq_none (by rw [List.length_set]; omega)] at z; cases z
    · rw [List.getElem?_set_ne (Ne.symm c)] at z; exact z
  exact ⟨fun j f z => r.val j f (key z), fun j f z => r.own j f (key z), fun j k f g a h z1 z2 => r.dis j k f g a h (key z1) (key z2), by rw [List.length_set]; exact r.len⟩
end
end DL

/-! The data layer, part B: expressions. -/
namespace DL
open PySem L2

/-! ### readings over data, and what they are on the heap -/
abbrev AE := DSt → (DV → DSt → Prop) → Prop
abbrev AT := DSt → (Bool → DSt → Prop) → Prop
abbrev AA := DSt → (List DV → DSt → Prop) → Prop

def tD (a : AE) : TE := fun σ H Q => ∃ B F ρ Q', Wd B F H ∧ RSt B F ρ σ H ∧ a ρ Q' ∧
  ∀ F' H' ρ' d v, Wd B F' H' → Ext F F' → RSt B F' ρ' σ H' → Rep F' d v → Q' d ρ' → Q v H'
def tDT (a : AT) : TT := fun σ H Q => ∃ B F ρ Q', Wd B F H ∧ RSt B F ρ σ H ∧ a ρ Q' ∧
  ∀ F' H' ρ' b, Wd B F' H' → Ext F F' → RSt B F' ρ' σ H' → Q' b ρ' → Q b H'
def tDA (a : AA) : TA := fun σ H Q => ∃ B F ρ Q', Wd B F H ∧ RSt B F ρ σ H ∧ a ρ Q' ∧
  ∀ F' H' ρ' ds vs, Wd B F' H' → Ext F F' → RSt B F' ρ' σ H' → Reps F' ds vs → Q' ds ρ' → Q vs H'

structure DE (X : Cx) (e : Expr) (a : AE) : Prop where
  pe : PE X e (tD a)
structure DT (X : Cx) (e : Expr) (a : AT) : Prop where
  pt : PT X e (tDT a)
/-- a test whatever its whole is -/
structure DW (X : Cx) (e : Expr) (a : AT) : Prop where
  pw : PW X e (tDT a)
structure DA (X : Cx) (es : List Expr) (a : AA) : Prop where
  pa : PA X es (tDA a)

theorem pe_imp {X : Cx} {e : Expr} {t t' : TE} (h : PE X e t) (k : ∀ σ H Q, t' σ H Q → t σ H Q) : PE X e t' :=
  ⟨fun pins s σ H Q I w => h.run pins s σ H Q I (k σ H Q w)⟩
theorem pt_imp {X : Cx} {e : Expr} {t t' : TT} (h : PT X e t) (k : ∀ σ H Q, t' σ H Q → t σ H Q) : PT X e t' :=
  ⟨fun pins s σ H Q I w => h.run pins s σ H Q I (k σ H Q w)⟩
theorem pw_imp {X : Cx} {e : Expr} {t t' : TT} (h : PW X e t) (k : ∀ σ H Q, t' σ H Q → t σ H Q) : PW X e t' :=
  ⟨fun wh pins s σ H Q I w => h.run wh pins s σ H Q I (k σ H Q w)⟩
theorem pa_imp {X : Cx} {es : List Expr} {t t' : TA} (h : PA X es t) (k : ∀ σ H Q, t' σ H Q → t σ H Q) : PA X es t' :=
  ⟨fun pos pins s σ H Q I w => h.run pos pins s σ H Q I (k σ H Q w)⟩

section
variable {B : Bs} {X : Cx} {pos : Pos}

/-! ### names, constants -/
def dVar (i : Nat) : AE := fun ρ Q => match ρ[i]? with
  | some (some (.val d)) => Q d ρ
  | some (some (.own d)) => Q d (ρ.set i (some (.val d)))
  | _ => False
theorem de_var {i : Nat} {x : Str} (hN : X.N[i]? = some x) (hv : Vis X.env.scope x) (hd : (x == ("__debug__" : Str)) = false := by decide) (hcd : (x == ("__classdict__" : Str)) = false := by decide) :
    DE X (.Name x pos) (dVar i) := by
  refine ⟨pe_imp (pe_var hN hv hd hcd) fun σ H Q h => ?_⟩
  obtain ⟨B, F, ρ, Q', w, r, a, k⟩ := h
  unfold dVar at a
  split at a
  next d e => obtain ⟨v, hs, hr⟩ := r.val i d e; exact ⟨v, hs, k F H ρ d v w (Ext.refl F) r hr a⟩
  next d e => obtain ⟨p, o, hs, w', x', r', hr⟩ := w.freeze r e; exact ⟨_, hs, k _ H _ d _ w' x' r' hr a⟩
  next => exact False.elim a
def dC (d : DV) : AE := fun ρ Q => Q d ρ
theorem de_const {e : Expr} {v : V} {d : DV} (h : PE X e (tC v)) (hr : ∀ F, Rep F d v) : DE X e (dC d) :=
  ⟨pe_imp h fun σ H Q ⟨B, F, ρ, Q', w, r, a, k⟩ => k F H ρ d v w (Ext.refl F) r (hr F) a⟩
theorem de_int {i j} : DE X (.Constant (.int i) j pos) (dC (.int i)) := de_const pe_int fun _ => rep_int.mpr rfl
theorem de_bl {b j} : DE X (.Constant (.bool b) j pos) (dC (.bl b)) := de_const pe_bl fun _ => rep_bl.mpr rfl
theorem de_non {j} : DE X (.Constant .none j pos) (dC .non) := de_const pe_non fun _ => rep_non.mpr rfl
theorem de_str {x j} : DE X (.Constant (.str x) j pos) (dC (.str x)) := de_const pe_str fun _ => rep_str.mpr rfl
/-- a module's constant -/
theorem de_gint {x : Str} {i : Int} {t : Tok} (hg : Gl X x) (hm : X.mg x = some (.int i t)) (hd : (x == ("__debug__" : Str)) = false := by decide) : DE X (.Name x pos) (dC (.int i)) :=
  de_const (pe_glob (v := .int i) hg hm ⟨t, rfl⟩ hd) fun _ => rep_int.mpr rfl
theorem de_gstr {x : Str} {z : Str} {t : Tok} (hg : Gl X x) (hm : X.mg x = some (.str z t)) (hd : (x == ("__debug__" : Str)) = false := by decide) : DE X (.Name x pos) (dC (.str z)) :=
  de_const (pe_glob (v := .str z) hg hm ⟨t, rfl⟩ hd) fun _ => rep_str.mpr rfl

/-! ### two operands -/
def OpD (r : R2) (f : DV → DV → (DV → Prop) → Prop) : Prop := ∀ (B : Bs) (F : Wo) (H : Hp) (x y : V) (dx dy : DV) (Q : VK) (Q' : DV → Prop), Wd B F H → Rep F dx x → Rep F dy y → f dx dy Q' →
  (∀ F' H' d v, Stp B F H F' H' → Rep F' d v → Q' d → Q v H') → r x y H Q
def dOp (f : DV → DV → (DV → Prop) → Prop) (a b : AE) : AE := fun ρ Q => a ρ fun x ρ1 => b ρ1 fun y ρ2 => f x y fun z => Q z ρ2
variable {e e1 e2 e3 : Expr} {a b c : AE}
theorem lift2 {r : R2} {f : DV → DV → (DV → Prop) → Prop} (hf : OpD r f) {σ : St} {H : Hp} {Q : VK} (h : tD (dOp f a b) σ H Q) : tOp r (tD a) (tD b) σ H Q := by
  obtain ⟨B, F, ρ, Q', w, r0, q, k⟩ := h
  refine ⟨B, F, ρ, _, w, r0, q, fun F1 H1 ρ1 dx x w1 x1 r1 hx q1 => ?_⟩
  refine ⟨B, F1, ρ1, _, w1, r1, q1, fun F2 H2 ρ2 dy y w2 x2 r2 hy q2 => ?_⟩
  exact hf B F2 H2 x y dx dy Q _ w2 (hx.mono x2) hy q2 fun F3 H3 d v s hr q3 => k F3 H3 ρ2 d v s.wd (x1.trans (x2.trans s.ext)) (s.st _ _ r2) hr q3
theorem de_op {op : Operator} {r : R2} {f : DV → DV → (DV → Prop) → Prop} (ho : OpR X (binaryOp op) r) (hf : OpD r f) (h1 : DE X e1 a) (h2 : DE X e2 b) : DE X (.BinOp e1 op e2 pos) (dOp f a b) :=
  ⟨pe_imp (pe_op ho h1.pe h2.pe) fun _ _ _ h => lift2 hf h⟩
theorem de_cmp {op : CmpOp} {r : R2} {f : DV → DV → (DV → Prop) → Prop} (ho : OpR X (compareOp op) r) (hf : OpD r f) (h1 : DE X e1 a) (h2 : DE X e2 b) (hm : behindInMarks op e2 = false) : DE X (.Compare e1 [op] [e2] pos) (dOp f a b) :=
  ⟨pe_imp (pe_cmpR ho h1.pe h2.pe hm) fun _ _ _ h => lift2 hf h⟩
def dTest (a : AE) : AT := fun ρ Q => a ρ fun x ρ1 => ∃ k, x = .bl k ∧ Q k ρ1
theorem dt_cmp {op : CmpOp} {r : R2} {f : DV → DV → (DV → Prop) → Prop} (ho : OpR X (compareOp op) r) (hf : OpD r f) (h1 : DE X e1 a) (h2 : DE X e2 b) (hm : behindInMarks op e2 = false) : DT X (.Compare e1 [op] [e2] pos) (dTest (dOp f a b)) := by
  refine ⟨pt_imp (pt_cmpR ho h1.pe h2.pe hm) fun σ H Q h => ?_⟩
  obtain ⟨B, F, ρ, Q', w, r0, q, k⟩ := h
  refine lift2 hf ⟨B, F, ρ, _, w, r0, q, fun F' H' ρ' d v w' x' r' hr q' => ?_⟩
  obtain ⟨b, rfl, q'⟩ := q'
  exact ⟨b, rep_bl.mp hr, k F' H' ρ' b w' x' r' q'⟩
def dChain (f g : DV → DV → (DV → Prop) → Prop) (a b c : AE) : AE := fun ρ Q => a ρ fun x ρ1 => b ρ1 fun y ρ2 => f x y fun z => ∃ k, z = .bl k ∧
  if k = true then c ρ2 fun u ρ3 => g y u fun z => Q z ρ3 else Q (.bl false) ρ2
theorem liftC {r r' : R2} {f g : DV → DV → (DV → Prop) → Prop} (hf : OpD r f) (hg : OpD r' g) {σ : St} {H : Hp} {Q : VK} (h : tD (dChain f g a b c) σ H Q) : tChain r r' (tD a) (tD b) (tD c) σ H Q := by
  obtain ⟨B, F, ρ, Q', w, r0, q, k⟩ := h
  refine ⟨B, F, ρ, _, w, r0, q, fun F1 H1 ρ1 dx x w1 x1 r1 hx q1 => ?_⟩
  refine ⟨B, F1, ρ1, _, w1, r1, q1, fun F2 H2 ρ2 dy y w2 x2 r2 hy q2 => ?_⟩
  refine hf B F2 H2 x y dx dy _ _ w2 (hx.mono x2) hy q2 fun F3 H3 d v s hr q3 => ?_
  obtain ⟨b, rfl, q3⟩ := q3
  refine ⟨b, rep_bl.mp hr, ?_⟩
  cases b with
  | true =>
    rw [if_pos rfl] at q3 ⊢
    refine ⟨B, F3, ρ2, _, s.wd, s.st _ _ r2, q3, fun F4 H4 ρ4 du u w4 x4 r4 hu q4 => ?_⟩
    exact hg B F4 H4 y u dy du Q _ w4 (hy.mono (s.ext.trans x4)) hu q4 fun F5 H5 d v s5 hr5 q5 =>
      k F5 H5 ρ4 d v s5.wd (x1.trans (x2.trans (s.ext.trans (x4.trans s5.ext)))) (s5.st _ _ r4) hr5 q5
  | false =>
    rw [if_neg Bool.false_ne_true] at q3 ⊢
    exact k F3 H3 ρ2 _ _ s.wd (x1.trans (x2.trans s.ext)) (s.st _ _ r2) (rep_bl.mpr rfl) q3
theorem de_chain {op op' : CmpOp} {r r' : R2} {f g : DV → DV → (DV → Prop) → Prop} (ho : OpR X (compareOp op) r) (hf : OpD r f) (ho' : OpR X (compareOp op') r') (hg : OpD r' g) (h1 : DE X e1 a) (h2 : DE X e2 b) (h3 : DE X e3 c)
    (hm : lastMarks [op, op'] [e2, e3] = false := by with_unfolding_all rfl) : DE X (.Compare e1 [op, op'] [e2, e3] pos) (dChain f g a b c) :=
  ⟨pe_imp (pe_chain ho ho' h1.pe h2.pe h3.pe hm) fun _ _ _ h => liftC hf hg h⟩
theorem dt_chain {op op' : CmpOp} {r r' : R2} {f g : DV → DV → (DV → Prop) → Prop} (ho : OpR X (compareOp op) r) (hf : OpD r f) (ho' : OpR X (compareOp op') r') (hg : OpD r' g) (h1 : DE X e1 a) (h2 : DE X e2 b) (h3 : DE X e3 c)
    (hm : lastMarks [op, op'] [e2, e3] = false := by with_unfolding_all rfl) : DT X (.Compare e1 [op, op'] [e2, e3] pos) (dTest (dChain f g a b c)) := by
  refine ⟨pt_imp (pt_chain ho ho' h1.pe h2.pe h3.pe hm) fun σ H Q h => ?_⟩
  obtain ⟨B, F, ρ, Q', w, r0, q, k⟩ := h
  refine liftC hf hg ⟨B, F, ρ, _, w, r0, q, fun F' H' ρ' d v w' x' r' hr q' => ?_⟩
  obtain ⟨b, rfl, q'⟩ := q'
  exact ⟨b, rep_bl.mp hr, k F' H' ρ' b w' x' r' q'⟩

/-! ### tests, and, or, not -/
/-- truth -/
def fTru (d : DV) (Q : Bool → Prop) : Prop := match d with
  | .non => Q false
  | .bl b => Q b
  | .int i => Q (i != 0)
  | .str x => x.length ≤ sizeLine ∧ Q ((x.length : Int) != 0)
  | .tup xs => Q (!xs.isEmpty)
  | .lst xs => Q (!xs.isEmpty)
  | _ => False
theorem Wd.sqL {F : Wo} {H : Hp} {p : Addr} {vs : List V} {K : PySem.W.Frag} (w : Wd B F H) (h : F.fz p = some (.lst vs)) : H p = some (.lst vs) := by
  rcases w.fz _ _ h with q | ⟨⟨_, q⟩, _⟩
  · exact q
  · cases q
theorem Wd.sqT {F : Wo} {H : Hp} {p : Addr} {vs : List V} {K : PySem.W.Frag} (w : Wd B F H) (h : F.fz p = some (.tup vs)) : H p = some (.tup vs) := by
  rcases w.fz _ _ h with q | ⟨⟨_, q⟩, _⟩
  · exact q
  · cases q
theorem Wd.ins {F : Wo} {H : Hp} {p C dx : Addr} {fs : List (Str × V)} (w : Wd B F H) (h : F.fz p = some (.ins C dx fs)) : H p = some (.ins C dx fs) := by
  rcases w.fz _ _ h with q | ⟨⟨_, q⟩, _⟩
  · exact q
  · cases q
theorem Wd.rdD {F : Wo} {H : Hp} {p : Addr} {kvs : List (Key × V)} (w : Wd B F H) (h : F.fz p = some (.dK kvs)) : Rd H p (.dK kvs) := by
  rcases w.fz _ _ h with q | ⟨_, ob, q⟩
  · exact .inl q
  · exact .inr ⟨ob, q⟩
theorem Reps.empty {F : Wo} : ∀ {ds : List DV} {vs : List V}, Reps F ds vs → vs.isEmpty = ds.isEmpty
  | [], _, h => by rw [reps_nil.mp h]; rfl
  | _ :: _, _, h => by obtain ⟨v, r, rfl, _, _⟩ := reps_cons.mp h; rfl
theorem tru_of {F : Wo} {H : Hp} {d : DV} {v : V} {Q : Bool → Prop} (w : Wd B F H) (hr : Rep F d v) (h : fTru d Q) : ∃ k, TruV X.K v H k ∧ Q k := by
  cases d with
  | non => rw [rep_non.mp hr]; exact ⟨_, rfl, h⟩
  | bl b => rw [rep_bl.mp hr]; exact ⟨_, rfl, h⟩
  | int i => rw [rep_int.mp hr]; exact ⟨_, rfl, h⟩
  | str x => rw [rep_str.mp hr]; exact ⟨_, ⟨h.1, rfl⟩, h.2⟩
  | tup xs => obtain ⟨p, vs, rfl, hf, hs⟩ := rep_tup.mp hr; exact ⟨_, .inr (.inl ⟨vs, SqT.of (w.sqT (K := X.K) hf), by rw [hs.empty]⟩), h⟩
  | lst xs => obtain ⟨p, vs, rfl, hf, hs⟩ := rep_lst.mp hr; exact ⟨_, .inl ⟨vs, SqL.of (w.sqL (K := X.K) hf), by rw [hs.empty]⟩, h⟩
  | _ => exact False.elim h
def dTru (a : AE) : AT := fun ρ Q => a ρ fun x ρ1 => fTru x fun k => Q k ρ1
theorem dt_tru (h : DE X e a) (he : ∀ whole, isTrue e X.env whole = (do let v ← whole; standAt e.pos; holding [v] (truthy v)) := by intro _; rfl) : DT X e (dTru a) := by
  refine ⟨pt_imp (pt_truth h.pe he) fun σ H Q h => ?_⟩
  obtain ⟨B, F, ρ, Q', w, r0, q, k⟩ := h
  refine ⟨B, F, ρ, _, w, r0, q, fun F' H' ρ' d v w' x' r' hr q' => ?_⟩
  obtain ⟨b, hb, q'⟩ := tru_of (X := X) w' hr q'
  exact ⟨b, hb, k F' H' ρ' b w' x' r' q'⟩
variable {ta tb : AT} {rest : List Expr}
def dAnd (a b : AT) : AT := fun ρ Q => a ρ fun c ρ1 => if c = true then b ρ1 Q else Q false ρ1
def dOr (a b : AT) : AT := fun ρ Q => a ρ fun c ρ1 => if c = true then Q true ρ1 else b ρ1 Q
def dNot (a : AT) : AT := fun ρ Q => a ρ fun c ρ1 => Q (!c) ρ1
theorem DW.dt {e : Expr} (h : DW X e ta) : DT X e ta := ⟨h.pw.pt⟩
theorem dw_and1 (h : DT X e1 ta) : DW X (.BoolOp .And [e1] pos) ta := ⟨pw_and1 h.pt⟩
theorem dw_or1 (h : DT X e1 ta) : DW X (.BoolOp .Or [e1] pos) ta := ⟨pw_or1 h.pt⟩
theorem dw_and (h1 : DT X e1 ta) (h2 : DW X (.BoolOp .And (e2 :: rest) pos) tb) : DW X (.BoolOp .And (e1 :: e2 :: rest) pos) (dAnd ta tb) := by
  refine ⟨pw_imp (pw_and h1.pt h2.pw) fun σ H Q h => ?_⟩
  obtain ⟨B, F, ρ, Q', w, r0, q, k⟩ := h
  refine ⟨B, F, ρ, _, w, r0, q, fun F' H' ρ' b w' x' r' q' => ?_⟩
  cases b with
  | true =>
    rw [if_pos rfl] at q' ⊢
    exact ⟨B, F', ρ', _, w', r', q', fun F2 H2 ρ2 b w2 x2 r2 q2 => k F2 H2 ρ2 b w2 (x'.trans x2) r2 q2⟩
  | false =>
    rw [if_neg Bool.false_ne_true] at q' ⊢
    exact k F' H' ρ' _ w' x' r' q'
theorem dw_or (h1 : DT X e1 ta) (h2 : DW X (.BoolOp .Or (e2 :: rest) pos) tb) : DW X (.BoolOp .Or (e1 :: e2 :: rest) pos) (dOr ta tb) := by
  refine ⟨pw_imp (pw_or h1.pt h2.pw) fun σ H Q h => ?_⟩
  obtain ⟨B, F, ρ, Q', w, r0, q, k⟩ := h
  refine ⟨B, F, ρ, _, w, r0, q, fun F' H' ρ' b w' x' r' q' => ?_⟩
  cases b with
  | false =>
    rw [if_neg Bool.false_ne_true] at q' ⊢
    exact ⟨B, F', ρ', _, w', r', q', fun F2 H2 ρ2 b w2 x2 r2 q2 => k F2 H2 ρ2 b w2 (x'.trans x2) r2 q2⟩
  | true =>
    rw [if_pos rfl] at q' ⊢
    exact k F' H' ρ' _ w' x' r' q'
theorem dt_not (h1 : DT X e1 ta) : DT X (.UnaryOp .Not e1 pos) (dNot ta) := by
  refine ⟨pt_imp (pt_not h1.pt) fun σ H Q h => ?_⟩
  obtain ⟨B, F, ρ, Q', w, r0, q, k⟩ := h
  exact ⟨B, F, ρ, _, w, r0, q, fun F' H' ρ' b w' x' r' q' => k F' H' ρ' _ w' x' r' q'⟩
/-- values -/
def dAndV (a b : AE) : AE := fun ρ Q => a ρ fun x ρ1 => fTru x fun k => if k = true then b ρ1 Q else Q x ρ1
def dOrV (a b : AE) : AE := fun ρ Q => a ρ fun x ρ1 => fTru x fun k => if k = true then Q x ρ1 else b ρ1 Q
def dNotV (a : AE) : AE := fun ρ Q => a ρ fun x ρ1 => fTru x fun k => Q (.bl (!k)) ρ1
theorem de_one {op} (h : DE X e1 a) : DE X (.BoolOp op [e1] pos) a := ⟨pe_one h.pe⟩
theorem de_and (h1 : DE X e1 a) (h2 : DE X (.BoolOp .And (e2 :: rest) pos) b) : DE X (.BoolOp .And (e1 :: e2 :: rest) pos) (dAndV a b) := by
  refine ⟨pe_imp (pe_andT h1.pe h2.pe) fun σ H Q h => ?_⟩
  obtain ⟨B, F, ρ, Q', w, r0, q, k⟩ := h
  refine ⟨B, F, ρ, _, w, r0, q, fun F' H' ρ' d v w' x' r' hr q' => ?_⟩
  obtain ⟨b, hb, q'⟩ := tru_of (X := X) w' hr q'
  refine ⟨b, hb, ?_⟩
  cases b with
  | true =>
    rw [if_pos rfl] at q' ⊢
    exact ⟨B, F', ρ', _, w', r', q', fun F2 H2 ρ2 b v2 w2 x2 r2 hr2 q2 => k F2 H2 ρ2 b v2 w2 (x'.trans x2) r2 hr2 q2⟩
  | false =>
    rw [if_neg Bool.false_ne_true] at q' ⊢
    exact k F' H' ρ' _ _ w' x' r' hr q'
theorem de_or (h1 : DE X e1 a) (h2 : DE X (.BoolOp .Or (e2 :: rest) pos) b) : DE X (.BoolOp .Or (e1 :: e2 :: rest) pos) (dOrV a b) := by
  refine ⟨pe_imp (pe_orT h1.pe h2.pe) fun σ H Q h => ?_⟩
  obtain ⟨B, F, ρ, Q', w, r0, q, k⟩ := h
  refine ⟨B, F, ρ, _, w, r0, q, fun F' H' ρ' d v w' x' r' hr q' => ?_⟩
  obtain ⟨b, hb, q'⟩ := tru_of (X := X) w' hr q'
  refine ⟨b, hb, ?_⟩
  cases b with
  | false =>
    rw [if_neg Bool.false_ne_true] at q' ⊢
    exact ⟨B, F', ρ', _, w', r', q', fun F2 H2 ρ2 b v2 w2 x2 r2 hr2 q2 => k F2 H2 ρ2 b v2 w2 (x'.trans x2) r2 hr2 q2⟩
  | true =>
    rw [if_pos rfl] at q' ⊢
    exact k F' H' ρ' _ _ w' x' r' hr q'
theorem de_not (h1 : DE X e1 a) : DE X (.UnaryOp .Not e1 pos) (dNotV a) := by
  refine ⟨pe_imp (pe_notT h1.pe) fun σ H Q h => ?_⟩
  obtain ⟨B, F, ρ, Q', w, r0, q, k⟩ := h
  refine ⟨B, F, ρ, _, w, r0, q, fun F' H' ρ' d v w' x' r' hr q' => ?_⟩
  obtain ⟨b, hb, q'⟩ := tru_of (X := X) w' hr q'
  exact ⟨b, hb, k F' H' ρ' _ _ w' x' r' (rep_bl.mpr rfl) q'⟩
def dIf (t : AT) (a b : AE) : AE := fun ρ Q => t ρ fun c ρ1 => if c = true then a ρ1 Q else b ρ1 Q
theorem de_if (ht : DT X e ta) (h1 : DE X e1 a) (h2 : DE X e2 b) : DE X (.IfExp e e1 e2 pos) (dIf ta a b) := by
  refine ⟨pe_imp (pe_ifExp ht.pt h1.pe h2.pe) fun σ H Q h => ?_⟩
  obtain ⟨B, F, ρ, Q', w, r0, q, k⟩ := h
  refine ⟨B, F, ρ, _, w, r0, q, fun F' H' ρ' b w' x' r' q' => ?_⟩
  cases b with
  | false =>
    rw [if_neg Bool.false_ne_true] at q' ⊢
    exact ⟨B, F', ρ', _, w', r', q', fun F2 H2 ρ2 b v2 w2 x2 r2 hr2 q2 => k F2 H2 ρ2 b v2 w2 (x'.trans x2) r2 hr2 q2⟩
  | true =>
    rw [if_pos rfl] at q' ⊢
    exact ⟨B, F', ρ', _, w', r', q', fun F2 H2 ρ2 b v2 w2 x2 r2 hr2 q2 => k F2 H2 ρ2 b v2 w2 (x'.trans x2) r2 hr2 q2⟩

/-! ### argument lists, displays -/
def dNil : AA := fun ρ Q => Q [] ρ
def dCons (a : AE) (t : AA) : AA := fun ρ Q => a ρ fun x ρ1 => t ρ1 fun xs ρ2 => Q (x :: xs) ρ2
variable {es : List Expr} {t : AA}
theorem da_nil : DA X [] dNil := ⟨pa_imp pa_nil fun σ H Q ⟨B, F, ρ, Q', w, r, a, k⟩ => k F H ρ _ _ w (Ext.refl F) r Reps.nil a⟩
theorem da_cons (h1 : DE X e a) (h2 : DA X es t) (hs : starEach (e :: es) X.env = (false, eval e X.env) :: starEach es X.env := by rfl) : DA X (e :: es) (dCons a t) := by
  refine ⟨pa_imp (pa_cons h1.pe h2.pa hs) fun σ H Q h => ?_⟩
  obtain ⟨B, F, ρ, Q', w, r0, q, k⟩ := h
  refine ⟨B, F, ρ, _, w, r0, q, fun F1 H1 ρ1 dx x w1 x1 r1 hx q1 => ?_⟩
  exact ⟨B, F1, ρ1, _, w1, r1, q1, fun F2 H2 ρ2 ds vs w2 x2 r2 hs q2 => k F2 H2 ρ2 _ _ w2 (x1.trans x2) r2 (Reps.cons (hx.mono x2) hs) q2⟩
def dTup (t : AA) : AE := fun ρ Q => t ρ fun xs ρ1 => xs.length ≤ sizeLine ∧ Q (.tup xs) ρ1
def dLst (t : AA) : AE := fun ρ Q => t ρ fun xs ρ1 => xs.length ≤ sizeLine ∧ Q (.lst xs) ρ1
theorem Stp.tupN {F : Wo} {H : Hp} {p : Addr} {ds : List DV} {vs : List V} (w : Wd B F H) (hp : H p = none) (h : Reps F ds vs) : Stp B F H (F.add p (.tup vs)) (upd H p (.tup vs)) ∧ Rep (F.add p (.tup vs)) (.tup ds) (.ref p) :=
  ⟨w.lay hp, rep_tup.mpr ⟨p, vs, rfl, Wo.add_same, h.mono (w.lay hp).ext⟩⟩
theorem Stp.lstN {F : Wo} {H : Hp} {p : Addr} {ds : List DV} {vs : List V} (w : Wd B F H) (hp : H p = none) (h : Reps F ds vs) : Stp B F H (F.add p (.lst vs)) (upd H p (.lst vs)) ∧ Rep (F.add p (.lst vs)) (.lst ds) (.ref p) :=
  ⟨w.lay hp, rep_lst.mpr ⟨p, vs, rfl, Wo.add_same, h.mono (w.lay hp).ext⟩⟩
theorem de_tup {x1} (h : DA X es t) : DE X (.Tuple es x1 pos) (dTup t) := by
  refine ⟨pe_imp (pe_tup h.pa) fun σ H Q h => ?_⟩
  obtain ⟨B, F, ρ, Q', w, r0, q, k⟩ := h
  refine ⟨B, F, ρ, _, w, r0, q, fun F1 H1 ρ1 ds vs w1 x1 r1 hs q1 => ⟨by rw [← hs.length]; exact q1.1, fun p hp => ?_⟩⟩
  obtain ⟨s, hr⟩ := Stp.tupN w1 hp hs
  exact k _ _ ρ1 _ _ s.wd (x1.trans s.ext) (s.st _ _ r1) hr q1.2
theorem de_lst (h : DA X es t) : DE X (.List es pos) (dLst t) := by
  refine ⟨pe_imp (pe_lst h.pa) fun σ H Q h => ?_⟩
  obtain ⟨B, F, ρ, Q', w, r0, q, k⟩ := h
  refine ⟨B, F, ρ, _, w, r0, q, fun F1 H1 ρ1 ds vs w1 x1 r1 hs q1 => ⟨by rw [← hs.length]; exact q1.1, fun p hp => ?_⟩⟩
  obtain ⟨s, hr⟩ := Stp.lstN w1 hp hs
  exact k _ _ ρ1 _ _ s.wd (x1.trans s.ext) (s.st _ _ r1) hr q1.2

/-! ### calls of built-ins -/
def ClD (r : List V → Hp → VK → Prop) (f : List DV → (DV → Prop) → Prop) : Prop := ∀ (B : Bs) (F : Wo) (H : Hp) (xs : List V) (ds : List DV) (Q : VK) (Q' : DV → Prop), Wd B F H → Reps F ds xs → f ds Q' →
  (∀ F' H' d v, Stp B F H F' H' → Rep F' d v → Q' d → Q v H') → r xs H Q
def dCl (f : List DV → (DV → Prop) → Prop) (t : AA) : AE := fun ρ Q => t ρ fun xs ρ1 => f xs fun z => Q z ρ1
theorem liftCl {r : List V → Hp → VK → Prop} {f : List DV → (DV → Prop) → Prop} (hf : ClD r f) {σ : St} {H : Hp} {Q : VK} (h : tD (dCl f t) σ H Q) : tCB r (tDA t) σ H Q := by
  obtain ⟨B, F, ρ, Q', w, r0, q, k⟩ := h
  refine ⟨B, F, ρ, _, w, r0, q, fun F1 H1 ρ1 ds xs w1 x1 r1 hs q1 => ?_⟩
  exact hf B F1 H1 xs ds Q _ w1 hs q1 fun F2 H2 d v s hr q2 => k F2 H2 ρ1 d v s.wd (x1.trans s.ext) (s.st _ _ r1) hr q2
variable {x : Str} {p : Pos} {id T : String}
theorem de_callB {r : List V → Hp → VK → Prop} {f : List DV → (DV → Prop) → Prop} (hc : CallR X (.builtin id) r) (hf : ClD r f) (hg : Gl X x) (hm : X.mg x = none) (hv : bootBuiltins x = some (.builtin id)) (ha : DA X (e :: es) t) (hn : x ≠ "__name__" := by decide) (hdb : (x == ("__debug__" : Str)) = false := by decide)
    (he : starEach (e :: es) X.env = (false, eval e X.env) :: starEach es X.env := by rfl) (hpl : (backTo pos (starEach es X.env)).any (·.1) = false := by rfl) : DE X (.Call (.Name x p) (e :: es) [] pos) (dCl f t) :=
  ⟨pe_imp (pe_callB hc hg hm hv ha.pa hn hdb he hpl) fun _ _ _ h => liftCl hf h⟩
theorem de_callTy {r : List V → Hp → VK → Prop} {f : List DV → (DV → Prop) → Prop} (hc : CallR X (.type T) r) (hf : ClD r f) (hg : Gl X x) (hm : X.mg x = none) (hv : bootBuiltins x = some (.type T)) (ha : DA X (e :: es) t) (hn : x ≠ "__name__" := by decide) (hdb : (x == ("__debug__" : Str)) = false := by decide)
    (he : starEach (e :: es) X.env = (false, eval e X.env) :: starEach es X.env := by rfl) (hpl : (backTo pos (starEach es X.env)).any (·.1) = false := by rfl) : DE X (.Call (.Name x p) (e :: es) [] pos) (dCl f t) :=
  ⟨pe_imp (pe_callTy hc hg hm hv ha.pa hn hdb he hpl) fun _ _ _ h => liftCl hf h⟩

/-! ### subscripts, slices -/
theorem de_ix {r : R2} {f : DV → DV → (DV → Prop) → Prop} (hr : IxR X r) (hf : OpD r f) (h1 : DE X e1 a) (h2 : DE X e2 b) (hs : PlainIx e2 := by intro _ _; rfl) : DE X (.Subscript e1 e2 pos) (dOp f a b) :=
  ⟨pe_imp (pe_ix hr h1.pe h2.pe hs) fun _ _ _ h => lift2 hf h⟩
abbrev AO := DSt → (Option Int → DSt → Prop) → Prop
def tDO (a : AO) : TO := fun σ H Q => ∃ B F ρ Q', Wd B F H ∧ RSt B F ρ σ H ∧ a ρ Q' ∧
  ∀ F' H' ρ' b, Wd B F' H' → Ext F F' → RSt B F' ρ' σ H' → Q' b ρ' → Q b H'
structure DO (X : Cx) (e : Option Expr) (a : AO) : Prop where
  po : PO X e (tDO a)
theorem po_imp {X : Cx} {e : Option Expr} {t t' : TO} (h : PO X e t) (k : ∀ σ H Q, t' σ H Q → t σ H Q) : PO X e t' :=
  ⟨fun pins s σ H Q I w => h.run pins s σ H Q I (k σ H Q w)⟩
def dNo : AO := fun ρ Q => Q none ρ
def dPart (a : AE) : AO := fun ρ Q => a ρ fun x ρ1 => ∃ i, x = .int i ∧ Q (some i) ρ1
theorem do_none : DO X none dNo := ⟨po_imp po_none fun σ H Q ⟨B, F, ρ, Q', w, r, a, k⟩ => k F H ρ _ w (Ext.refl F) r a⟩
theorem do_some (h : DE X e a) : DO X (some e) (dPart a) := by
  refine ⟨po_imp (po_some h.pe) fun σ H Q h => ?_⟩
  obtain ⟨B, F, ρ, Q', w, r0, q, k⟩ := h
  refine ⟨B, F, ρ, _, w, r0, q, fun F1 H1 ρ1 dx x w1 x1 r1 hx q1 => ?_⟩
  obtain ⟨i, rfl, q1⟩ := q1
  exact ⟨i, rep_int.mp hx, k F1 H1 ρ1 _ w1 x1 r1 q1⟩
def SlD (r : V → Option Int → Option Int → Hp → VK → Prop) (f : DV → Option Int → Option Int → (DV → Prop) → Prop) : Prop := ∀ (B : Bs) (F : Wo) (H : Hp) (x : V) (dx : DV) (lo hi : Option Int) (Q : VK) (Q' : DV → Prop), Wd B F H → Rep F dx x → f dx lo hi Q' →
  (∀ F' H' d v, Stp B F H F' H' → Rep F' d v → Q' d → Q v H') → r x lo hi H Q
def dSl (f : DV → Option Int → Option Int → (DV → Prop) → Prop) (a : AE) (lo hi : AO) : AE := fun ρ Q => a ρ fun x ρ1 => lo ρ1 fun l ρ2 => hi ρ2 fun u ρ3 => f x l u fun z => Q z ρ3
variable {lo hi : Option Expr} {tl th : AO} {p2 : Pos}
theorem de_slice {r : V → Option Int → Option Int → Hp → VK → Prop} {f : DV → Option Int → Option Int → (DV → Prop) → Prop} (hr : SlR X r) (hf : SlD r f) (h1 : DE X e a) (hl : DO X lo tl) (hu : DO X hi th) :
    DE X (.Subscript e (.Slice lo hi none p2) pos) (dSl f a tl th) := by
  refine ⟨pe_imp (pe_slice hr h1.pe hl.po hu.po) fun σ H Q h => ?_⟩
  obtain ⟨B, F, ρ, Q', w, r0, q, k⟩ := h
  refine ⟨B, F, ρ, _, w, r0, q, fun F1 H1 ρ1 dx x w1 x1 r1 hx q1 => ?_⟩
  refine ⟨B, F1, ρ1, _, w1, r1, q1, fun F2 H2 ρ2 l w2 x2 r2 q2 => ?_⟩
  refine ⟨B, F2, ρ2, _, w2, r2, q2, fun F3 H3 ρ3 u w3 x3 r3 q3 => ?_⟩
  exact hf B F3 H3 x dx l u Q _ w3 (hx.mono (x2.trans x3)) q3 fun F4 H4 d v s hr q4 => k F4 H4 ρ3 d v s.wd (x1.trans (x2.trans (x3.trans s.ext))) (s.st _ _ r3) hr q4
end
end DL

/-! The data layer, part C: operators, built-ins. -/
namespace DL
open PySem L2

section
variable {X : Cx}

/-! ### arithmetic -/
def fAdd (x y : DV) (Q : DV → Prop) : Prop := match x, y with
  | .int i, .int j => Q (.int (i + j))
  | .str a, .str b => a.length + b.length ≤ sizeLine ∧ Q (.str (a ++ b))
  | .lst xs, .lst ys => xs.length + ys.length ≤ sizeLine ∧ Q (.lst (xs ++ ys))
  | .tup xs, .tup ys => xs.length + ys.length ≤ sizeLine ∧ Q (.tup (xs ++ ys))
  | _, _ => False
theorem oo_add : OpR X (binaryOp .Add) (fun x y H Q => (rI0 fun i j => .int (i + j)) x y H Q ∨ (∃ i j, x = .str i ∧ y = .str j ∧ i.length + j.length ≤ sizeLine ∧ Q (.str (i ++ j)) H) ∨ rCat x y H Q ∨ rCatA X.K x y H Q) :=
  OpR.or op_add (OpR.or op_add_str (OpR.or op_cat op_catA))
theorem reps_isnil {F : Wo} {ds : List DV} {vs : List V} (h : Reps F ds vs) : vs = [] ↔ ds = [] := by
  have := h.length
  constructor <;> (intro e; subst e; first | (exact List.eq_nil_of_length_eq_zero (by simpa using this)) | (exact List.eq_nil_of_length_eq_zero (by simpa using this.symm)))
theorem od_add {K : PySem.W.Frag} : OpD (fun x y H Q => (rI0 fun i j => .int (i + j)) x y H Q ∨ (∃ i j, x = .str i ∧ y = .str j ∧ i.length + j.length ≤ sizeLine ∧ Q (.str (i ++ j)) H) ∨ rCat x y H Q ∨ rCatA K x y H Q) fAdd := by
  intro B F H x y dx dy Q Q' w hx hy h k
  cases dx <;> cases dy <;> first | exact False.elim h | skip
  · rw [rep_int.mp hx, rep_int.mp hy]; exact .inl ⟨_, _, rfl, rfl, k F H _ _ (Stp.refl w) (rep_int.mpr rfl) h⟩
  · rw [rep_str.mp hx, rep_str.mp hy]; exact .inr (.inl ⟨_, _, rfl, rfl, h.1, k F H _ _ (Stp.refl w) (rep_str.mpr rfl) h.2⟩)
  · obtain ⟨a, vs, rfl, fa, ra⟩ := rep_tup.mp hx
    obtain ⟨b, ws, rfl, fb, rb⟩ := rep_tup.mp hy
    refine .inr (.inr (.inr ⟨a, b, vs, ws, rfl, rfl, SqT.of (w.sqT (K := K) fa), SqT.of (w.sqT (K := K) fb), by rw [← ra.length, ← rb.length]; exact h.1, fun e => ?_, fun _ e => ?_, fun _ _ p hp => ?_⟩))
    · have e' := (reps_isnil ra).mp e
      subst e'
      exact k F H _ _ (Stp.refl w) hy h.2
    · have e' := (reps_isnil rb).mp e
      subst e'
      have h2 := h.2
      rw [List.append_nil] at h2
      exact k F H _ _ (Stp.refl w) hx h2
    · obtain ⟨s, hr⟩ := Stp.tupN w hp (ra.append rb)
      exact k _ _ _ _ s hr h.2
  · obtain ⟨a, vs, rfl, fa, ra⟩ := rep_lst.mp hx
    obtain ⟨b, ws, rfl, fb, rb⟩ := rep_lst.mp hy
    refine .inr (.inr (.inl ⟨a, b, vs, ws, rfl, rfl, w.sqL (K := K) fa, w.sqL (K := K) fb, by rw [← ra.length, ← rb.length]; exact h.1, fun p hp => ?_⟩))
    obtain ⟨s, hr⟩ := Stp.lstN w hp (ra.append rb)
    exact k _ _ _ _ s hr h.2
/-- ints alone -/
def fI2 (C : Int → Int → Prop) (g : Int → Int → Int) (x y : DV) (Q : DV → Prop) : Prop := match x, y with
  | .int i, .int j => C i j ∧ Q (.int (g i j))
  | _, _ => False
theorem od_i2 {C : Int → Int → Prop} {g : Int → Int → Int} : OpD (rI C fun i j => .int (g i j)) (fI2 C g) := by
  intro B F H x y dx dy Q Q' w hx hy h k
  cases dx <;> cases dy <;> first | exact False.elim h | skip
  rw [rep_int.mp hx, rep_int.mp hy]; exact ⟨_, _, rfl, rfl, h.1, k F H _ _ (Stp.refl w) (rep_int.mpr rfl) h.2⟩
def fSub (x y : DV) (Q : DV → Prop) : Prop := match x, y with
  | .int i, .int j => Q (.int (i - j))
  | _, _ => False
theorem od_sub : OpD (rI0 fun i j => .int (i - j)) fSub := by
  intro B F H x y dx dy Q Q' w hx hy h k
  cases dx <;> cases dy <;> first | exact False.elim h | skip
  rw [rep_int.mp hx, rep_int.mp hy]; exact ⟨_, _, rfl, rfl, k F H _ _ (Stp.refl w) (rep_int.mpr rfl) h⟩
def fDiv : DV → DV → (DV → Prop) → Prop := fI2 CDivW fun i j => i / j
def fMod : DV → DV → (DV → Prop) → Prop := fI2 (fun _ j => 0 < j) fun i j => i % j
def fPow : DV → DV → (DV → Prop) → Prop := fI2 CPow fun i j => i ^ j.toNat
theorem reps_flat {F : Wo} {ds : List DV} {vs : List V} (h : Reps F ds vs) : ∀ n : Nat, Reps F (List.replicate n ds).flatten (List.replicate n vs).flatten
  | 0 => by simp [reps_nil]
  | n + 1 => by simp only [List.replicate_succ, List.flatten_cons]; exact h.append (reps_flat h n)
def fMul (x y : DV) (Q : DV → Prop) : Prop := match x, y with
  | .int i, .int j => CMulW i j ∧ Q (.int (i * j))
  | .lst xs, .int k => -(2 ^ 63) ≤ k ∧ k < 2 ^ 63 ∧ xs.length * k.toNat ≤ sizeLine ∧ Q (.lst (List.replicate k.toNat xs).flatten)
  | .tup xs, .int k => xs ≠ [] ∧ 2 ≤ k ∧ k ≤ 1000 ∧ xs.length ≤ 1000 ∧ Q (.tup (List.replicate k.toNat xs).flatten)
  | _, _ => False
theorem oo_mul : OpR X (binaryOp .Mult) (fun x y H Q => (rI CMulW fun i j => .int (i * j)) x y H Q ∨ rRep x y H Q ∨ rRepT X.K x y H Q) := OpR.or op_mulW (OpR.or op_rep op_repT)
theorem od_mul {K : PySem.W.Frag} : OpD (fun x y H Q => (rI CMulW fun i j => .int (i * j)) x y H Q ∨ rRep x y H Q ∨ rRepT K x y H Q) fMul := by
  intro B F H x y dx dy Q Q' w hx hy h k
  cases dx <;> cases dy <;> first | exact False.elim h | skip
  · rw [rep_int.mp hx, rep_int.mp hy]; exact .inl ⟨_, _, rfl, rfl, h.1, k F H _ _ (Stp.refl w) (rep_int.mpr rfl) h.2⟩
  · obtain ⟨a, vs, rfl, fa, ra⟩ := rep_tup.mp hx
    rw [rep_int.mp hy]
    obtain ⟨h1, h2, h3, h4, h5⟩ := h
    refine .inr (.inr ⟨a, _, vs, rfl, rfl, SqT.of (w.sqT (K := K) fa), fun e => h1 ((reps_isnil ra).mp e), h2, h3, by rw [← ra.length]; exact h4, fun p hp => ?_⟩)
    obtain ⟨s, hr⟩ := Stp.tupN w hp (reps_flat ra _)
    exact k _ _ _ _ s hr h5
  · obtain ⟨a, vs, rfl, fa, ra⟩ := rep_lst.mp hx
    rw [rep_int.mp hy]
    obtain ⟨h1, h2, h3, h4⟩ := h
    refine .inr (.inl ⟨a, _, vs, rfl, rfl, w.sqL (K := K) fa, h1, h2, by rw [← ra.length]; exact h3, fun p hp => ?_⟩)
    obtain ⟨s, hr⟩ := Stp.lstN w hp (reps_flat ra _)
    exact k _ _ _ _ s hr h4

/-! ### comparisons -/
def scalD : DV → Option V
  | .non => some .non
  | .bl b => some (.bl b)
  | .int i => some (.int i)
  | .str x => some (.str x)
  | _ => none
theorem rep_scal {F : Wo} {d : DV} {v a : V} (h : Rep F d v) (e : scalD d = some a) : v = a := by
  cases d <;> simp only [scalD, Option.some.injEq, reduceCtorEq] at e
  · rw [rep_non.mp h, e]
  · rw [rep_bl.mp h, e]
  · rw [rep_int.mp h, e]
  · rw [rep_str.mp h, e]
mutual
def toP : DV → Option PyData
  | .non => some .none
  | .bl b => some (.bool b)
  | .int i => some (.int i)
  | .str x => some (.str x)
  | .tup xs => (toPs xs).map .tuple
  | .lst xs => (toPs xs).map .list
  | .dic _ _ => none
  | .obj _ _ _ => none
  | .bag _ => none
  | .ty _ => none
  | .cls _ => none
  | .lsa _ _ => none
def toPs : List DV → Option (List PyData)
  | [] => some []
  | x :: xs => match toP x, toPs xs with
    | some p, some ps => some (p :: ps)
    | _, _ => none
end
mutual
theorem rep_dp {B : Bs} {F : Wo} {H : Hp} {K : PySem.W.Frag} (w : Wd B F H) : ∀ {d : DV} {v : V} {p : PyData}, Rep F d v → toP d = some p → Dp K H v p
  | .non, _, _, r, e => by rw [rep_non.mp r]; simp only [toP, Option.some.injEq] at e; subst e; exact .non
  | .bl b, _, _, r, e => by rw [rep_bl.mp r]; simp only [toP, Option.some.injEq] at e; subst e; exact .bl b
  | .int i, _, _, r, e => by rw [rep_int.mp r]; simp only [toP, Option.some.injEq] at e; subst e; exact .int i
  | .str x, _, _, r, e => by rw [rep_str.mp r]; simp only [toP, Option.some.injEq] at e; subst e; exact .str x
  | .tup xs, _, _, r, e => by
    obtain ⟨a, vs, rfl, f, q⟩ := rep_tup.mp r
    simp only [toP, Option.map_eq_some_iff] at e
    obtain ⟨ps, e, rfl⟩ := e
    exact .tup (SqT.of (w.sqT (K := K) f)) (rep_dps w q e)
  | .lst xs, _, _, r, e => by
    obtain ⟨a, vs, rfl, f, q⟩ := rep_lst.mp r
    simp only [toP, Option.map_eq_some_iff] at e
    obtain ⟨ps, e, rfl⟩ := e
    exact .lst (SqL.of (w.sqL (K := K) f)) (rep_dps w q e)
  | .dic _ _, _, _, _, e => by simp [toP] at e
  | .obj _ _ _, _, _, _, e => by simp [toP] at e
  | .bag _, _, _, _, e => by simp [toP] at e
  | .ty _, _, _, _, e => by simp [toP] at e
  | .cls _, _, _, _, e => by simp [toP] at e
  | .lsa _ _, _, _, _, e => by simp [toP] at e
theorem rep_dps {B : Bs} {F : Wo} {H : Hp} {K : PySem.W.Frag} (w : Wd B F H) : ∀ {ds : List DV} {vs : List V} {ps : List PyData}, Reps F ds vs → toPs ds = some ps → DpAll K H vs ps
  | [], _, _, r, e => by rw [reps_nil.mp r]; simp only [toPs, Option.some.injEq] at e; subst e; exact .nil
  | d :: ds, _, _, r, e => by
    obtain ⟨v, vs, rfl, q, qs⟩ := reps_cons.mp r
    simp only [toPs] at e
    split at e
    next p ps h1 h2 => cases e; exact .cons (rep_dp w q h1) (rep_dps w qs h2)
    next => cases e
end
/-- ==: scalars; otherwise as data -/
def fEqB (x y : DV) (Q : Bool → Prop) : Prop := match scalD x, scalD y with
  | some a, some b => scal a b = true ∧ Q (decide (a = b))
  | _, _ => ∃ p q, toP x = some p ∧ toP y = some q ∧ SeqAt.shaped p = true ∧ SeqAt.shaped q = true ∧ Q (PyData.eqv p q)
def fEq (x y : DV) (Q : DV → Prop) : Prop := fEqB x y fun b => Q (.bl b)
def fNe (x y : DV) (Q : DV → Prop) : Prop := fEqB x y fun b => Q (.bl (!b))
theorem fEqB_or {x y : DV} {Q : Bool → Prop} (h : fEqB x y Q) : (∃ a b, scalD x = some a ∧ scalD y = some b ∧ scal a b = true ∧ Q (decide (a = b))) ∨
    ∃ p q, toP x = some p ∧ toP y = some q ∧ SeqAt.shaped p = true ∧ SeqAt.shaped q = true ∧ Q (PyData.eqv p q) := by
  unfold fEqB at h
  split at h
  next a b h1 h2 => exact .inl ⟨a, b, h1, h2, h⟩
  next => exact .inr h
theorem oo_eq (hu : X.A.units + 100 < cLine) : OpR X (compareOp .Eq) (fun x y H Q => rEq x y H Q ∨ rEqD X.K x y H Q) := OpR.or op_eq (op_eqD (by omega))
theorem oo_ne (hu : X.A.units + 100 < cLine) : OpR X (compareOp .NotEq) (fun x y H Q => rNe x y H Q ∨ rNeD X.K x y H Q) := OpR.or op_ne (op_neD (by omega))
theorem od_eq {K : PySem.W.Frag} : OpD (fun x y H Q => rEq x y H Q ∨ rEqD K x y H Q) fEq := by
  intro B F H x y dx dy Q Q' w hx hy h k
  rcases fEqB_or h with ⟨a, b, ea, eb, hs, q⟩ | ⟨p, q, ea, eb, s1, s2, h⟩
  · rw [rep_scal hx ea, rep_scal hy eb]; exact .inl ⟨hs, k F H _ _ (Stp.refl w) (rep_bl.mpr rfl) q⟩
  · exact .inr ⟨p, q, rep_dp w hx ea, rep_dp w hy eb, s1, s2, k F H _ _ (Stp.refl w) (rep_bl.mpr rfl) h⟩
theorem od_ne {K : PySem.W.Frag} : OpD (fun x y H Q => rNe x y H Q ∨ rNeD K x y H Q) fNe := by
  intro B F H x y dx dy Q Q' w hx hy h k
  rcases fEqB_or h with ⟨a, b, ea, eb, hs, q⟩ | ⟨p, q, ea, eb, s1, s2, h⟩
  · rw [rep_scal hx ea, rep_scal hy eb]; exact .inl ⟨hs, k F H _ _ (Stp.refl w) (rep_bl.mpr rfl) q⟩
  · exact .inr ⟨p, q, rep_dp w hx ea, rep_dp w hy eb, s1, s2, k F H _ _ (Stp.refl w) (rep_bl.mpr rfl) h⟩
def fLt (x y : DV) (Q : DV → Prop) : Prop := match x, y with
  | .int i, .int j => Q (.bl (decide (i < j)))
  | .str i, .str j => Q (.bl (decide (i.cps.toList < j.cps.toList)))
  | _, _ => False
theorem oo_lt : OpR X (compareOp .Lt) (fun x y H Q => (rI0 fun i j => .bl (decide (i < j))) x y H Q ∨ (∃ i j, x = .str i ∧ y = .str j ∧ Q (.bl (decide (i.cps.toList < j.cps.toList))) H)) := OpR.or op_lt op_lt_str
theorem od_lt : OpD (fun x y H Q => (rI0 fun i j => .bl (decide (i < j))) x y H Q ∨ (∃ i j, x = .str i ∧ y = .str j ∧ Q (.bl (decide (i.cps.toList < j.cps.toList))) H)) fLt := by
  intro B F H x y dx dy Q Q' w hx hy h k
  cases dx <;> cases dy <;> first | exact False.elim h | skip
  · rw [rep_int.mp hx, rep_int.mp hy]; exact .inl ⟨_, _, rfl, rfl, k F H _ _ (Stp.refl w) (rep_bl.mpr rfl) h⟩
  · rw [rep_str.mp hx, rep_str.mp hy]; exact .inr ⟨_, _, rfl, rfl, k F H _ _ (Stp.refl w) (rep_bl.mpr rfl) h⟩
/-- comparisons of ints -/
def fIB (g : Int → Int → Bool) (x y : DV) (Q : DV → Prop) : Prop := match x, y with
  | .int i, .int j => Q (.bl (g i j))
  | _, _ => False
theorem od_ib {g : Int → Int → Bool} : OpD (rI0 fun i j => .bl (g i j)) (fIB g) := by
  intro B F H x y dx dy Q Q' w hx hy h k
  cases dx <;> cases dy <;> first | exact False.elim h | skip
  rw [rep_int.mp hx, rep_int.mp hy]; exact ⟨_, _, rfl, rfl, k F H _ _ (Stp.refl w) (rep_bl.mpr rfl) h⟩
def fLe : DV → DV → (DV → Prop) → Prop := fIB fun i j => decide (i ≤ j)
def fGt : DV → DV → (DV → Prop) → Prop := fIB fun i j => decide (j < i)
def fGe : DV → DV → (DV → Prop) → Prop := fIB fun i j => decide (j ≤ i)
/-- is None -/
def isNon : DV → Bool
  | .non => true
  | _ => false
def fIs (x y : DV) (Q : DV → Prop) : Prop := match y with
  | .non => Q (.bl (isNon x))
  | _ => False
def fIsN (x y : DV) (Q : DV → Prop) : Prop := match y with
  | .non => Q (.bl (!isNon x))
  | _ => False
theorem rep_isnon {F : Wo} {d : DV} {v : V} (h : Rep F d v) : decide (v = .non) = isNon d := by
  cases d with
  | non => rw [rep_non.mp h]; rfl
  | bl b => rw [rep_bl.mp h]; rfl
  | int b => rw [rep_int.mp h]; rfl
  | str b => rw [rep_str.mp h]; rfl
  | tup xs => obtain ⟨a, vs, rfl, _⟩ := rep_tup.mp h; rfl
  | lst xs => obtain ⟨a, vs, rfl, _⟩ := rep_lst.mp h; rfl
  | dic ks xs => obtain ⟨a, vs, rfl, _⟩ := rep_dic.mp h; rfl
  | obj C ns xs => obtain ⟨a, dx, vs, rfl, _⟩ := rep_obj.mp h; rfl
  | bag a => rw [(rep_bag.mp h).1]; rfl
  | ty n => rw [rep_ty.mp h]; rfl
  | cls C => rw [rep_cls.mp h]; rfl
  | lsa a xs => rw [(rep_lsa.mp h).1]; rfl
theorem od_is : OpD (fun x y H Q => y = .non ∧ Q (.bl (decide (x = .non))) H) fIs := by
  intro B F H x y dx dy Q Q' w hx hy h k
  cases dy <;> first | exact False.elim h | skip
  rw [rep_non.mp hy, rep_isnon hx]; exact ⟨rfl, k F H _ _ (Stp.refl w) (rep_bl.mpr rfl) h⟩
theorem od_isn : OpD (fun x y H Q => y = .non ∧ Q (.bl (!decide (x = .non))) H) fIsN := by
  intro B F H x y dx dy Q Q' w hx hy h k
  cases dy <;> first | exact False.elim h | skip
  rw [rep_non.mp hy, rep_isnon hx]; exact ⟨rfl, k F H _ _ (Stp.refl w) (rep_bl.mpr rfl) h⟩

/-! ### in -/
def strIn (i z : Str) : Bool := !(Builtin.Str.occurrences z i 0 z.length 1).isEmpty
theorem strIn_one (c : Nat) (z : Str) : strIn ⟨#[c]⟩ z = decide (c ∈ z.cps.toList) := PySem.StrLaws.found_one z c
def scalsD : List DV → Option (List V)
  | [] => some []
  | d :: ds => match scalD d, scalsD ds with
    | some a, some as => some (a :: as)
    | _, _ => none
theorem reps_scals {F : Wo} : ∀ {ds : List DV} {vs as : List V}, Reps F ds vs → scalsD ds = some as → vs = as
  | [], _, _, h, e => by rw [reps_nil.mp h]; simpa [scalsD] using e
  | d :: ds, _, _, h, e => by
    obtain ⟨v, r, rfl, q, qs⟩ := reps_cons.mp h
    simp only [scalsD] at e
    split at e
    next a as h1 h2 => cases e; rw [rep_scal q h1, reps_scals qs h2]
    next => cases e
theorem scal_flat {d : DV} {a : V} (e : scalD d = some a) : flatV a = true := by
  cases d <;> simp only [scalD, Option.some.injEq, reduceCtorEq] at e <;> (subst e; rfl)
theorem scals_flat : ∀ {ds : List DV} {as : List V}, scalsD ds = some as → as.all flatV = true
  | [], _, e => by cases (Option.some.inj (show some [] = some _ from e)); rfl
  | d :: ds, _, e => by
    simp only [scalsD] at e
    split at e
    next a as h1 h2 => cases e; rw [List.all_cons, scal_flat h1, scals_flat h2]; rfl
    next => cases e
def keyD : DV → Option Key
  | .int i => some (.inl i)
  | .str x => some (.inr x)
  | _ => none
theorem rep_key {F : Wo} {d : DV} {v : V} {k : Key} (h : Rep F d v) (e : keyD d = some k) : v = kV k := by
  cases d <;> simp only [keyD, Option.some.injEq, reduceCtorEq] at e
  · rw [rep_int.mp h, ← e]; rfl
  · rw [rep_str.mp h, ← e]; rfl
/-- the answer of x in y -/
def fInB (x y : DV) (Q : Bool → Prop) : Prop := match y with
  | .str z => ∃ i, x = .str i ∧ Q (strIn i z)
  | .dic ks _ => ∃ k, keyD x = some k ∧ Q (ks.any fun q => decide (q = k))
  | .lst ys => match scalD x, scalsD ys with
    | some a, some as => Q (inV a as)
    | _, _ => ∃ p ps, toP x = some p ∧ toPs ys = some ps ∧ SeqAt.shaped p = true ∧ SeqAt.shaped (.list ps) = true ∧ Q (ps.any fun z => PyData.eqv z p)
  | .tup ys => ∃ a as, scalD x = some a ∧ scalsD ys = some as ∧ Q (inV a as)
  | _ => False
theorem fInB_lst {x : DV} {ys : List DV} {Q : Bool → Prop} (h : fInB x (.lst ys) Q) : (∃ a as, scalD x = some a ∧ scalsD ys = some as ∧ Q (inV a as)) ∨
      ∃ p ps, toP x = some p ∧ toPs ys = some ps ∧ SeqAt.shaped p = true ∧ SeqAt.shaped (.list ps) = true ∧ Q (ps.any fun z => PyData.eqv z p) := by
  have h : (match scalD x, scalsD ys with
    | some a, some as => Q (inV a as)
    | _, _ => ∃ p ps, toP x = some p ∧ toPs ys = some ps ∧ SeqAt.shaped p = true ∧ SeqAt.shaped (.list ps) = true ∧ Q (ps.any fun z => PyData.eqv z p)) := h
  split at h
  next a b h1 h2 => exact .inl ⟨a, b, h1, h2, h⟩
  next => exact .inr h
def fIn (x y : DV) (Q : DV → Prop) : Prop := fInB x y fun b => Q (.bl b)
def fNin (x y : DV) (Q : DV → Prop) : Prop := fInB x y fun b => Q (.bl (!b))
def rInG (K : PySem.W.Frag) (neg : Bool) : R2 := fun x y H Q => (∃ i j, x = .str i ∧ y = .str j ∧ Q (.bl (if neg then !strIn i j else strIn i j)) H) ∨ rIn K neg x y H Q ∨
  (∃ d ds, Dp K H x d ∧ Dp K H y (.list ds) ∧ SeqAt.shaped d = true ∧ SeqAt.shaped (.list ds) = true ∧ Q (.bl (if neg then !ds.any (fun z => PyData.eqv z d) else ds.any fun z => PyData.eqv z d)) H) ∨
  (∃ a o, y = .ref a ∧ DGet H a x o ∧ Q (.bl (if neg then !o.isSome else o.isSome)) H)
theorem oo_in (hu : X.A.units + 100 < cLine) : OpR X (compareOp .In) (rInG X.K false) := by
  refine OpR.or op_in_str (OpR.or op_in_seq (OpR.or (op_inD (by omega)) ?_))
  intro pins s σ H x y v u Q I rx ry ⟨a, o, e, g, q⟩
  subst e
  obtain rfl : u = Value.ref a := ry
  exact d_in (by omega) I g rx fun s3 I3 => ⟨.bl o.isSome, H, I3, rfl, q⟩
theorem oo_nin (hu : X.A.units + 100 < cLine) : OpR X (compareOp .NotIn) (rInG X.K true) := by
  refine OpR.or op_notIn_str (OpR.or op_notIn_seq (OpR.or (op_notInD (by omega)) ?_))
  intro pins s σ H x y v u Q I rx ry ⟨a, o, e, g, q⟩
  subst e
  obtain rfl : u = Value.ref a := ry
  exact d_notIn (by omega) I g rx fun s3 I3 => ⟨.bl (!o.isSome), H, I3, rfl, q⟩
theorem mem_valV {kvs : List (Key × V)} {k : Key} : (valV kvs k).isSome = ((kvs.map (·.1)).any fun q => decide (q = k)) := by
  rw [← valV_any, List.any_map]
  rfl
theorem od_inG {K : PySem.W.Frag} {neg : Bool} : OpD (rInG K neg) (fun x y Q => fInB x y fun b => Q (.bl (if neg then !b else b))) := by
  intro B F H x y dx dy Q Q' w hx hy h k
  cases dy with
  | str z =>
    obtain ⟨i, rfl, q⟩ := h
    rw [rep_str.mp hx, rep_str.mp hy]
    exact .inl ⟨i, z, rfl, rfl, k F H _ _ (Stp.refl w) (rep_bl.mpr rfl) q⟩
  | dic ks xs =>
    obtain ⟨c, e, q⟩ := h
    obtain ⟨a, kvs, rfl, f, hk, _⟩ := rep_dic.mp hy
    refine .inr (.inr (.inr ⟨a, valV kvs c, rfl, .inl ⟨kvs, c, w.rdD f, rep_key hx e, rfl⟩, ?_⟩))
    rw [mem_valV, hk]
    exact k F H _ _ (Stp.refl w) (rep_bl.mpr rfl) q
  | lst ys =>
    obtain ⟨a, vs, rfl, f, q⟩ := rep_lst.mp hy
    rcases fInB_lst h with ⟨b, as, e1, e2, h⟩ | ⟨p, ps, e1, e2, s1, s2, h⟩
    · have e3 := reps_scals q e2
      subst e3
      rw [rep_scal hx e1]
      exact .inr (.inl ⟨a, vs, rfl, .inl (SqL.of (w.sqL (K := K) f)), scal_flat e1, scals_flat e2, k F H _ _ (Stp.refl w) (rep_bl.mpr rfl) h⟩)
    · exact .inr (.inr (.inl ⟨p, ps, rep_dp w hx e1, .lst (SqL.of (w.sqL (K := K) f)) (rep_dps w q e2), s1, s2, k F H _ _ (Stp.refl w) (rep_bl.mpr rfl) h⟩))
  | tup ys =>
    obtain ⟨a, vs, rfl, f, q⟩ := rep_tup.mp hy
    obtain ⟨b, as, e1, e2, h⟩ := h
    have e3 := reps_scals q e2
    subst e3
    rw [rep_scal hx e1]
    exact .inr (.inl ⟨a, vs, rfl, .inr (SqT.of (w.sqT (K := K) f)), scal_flat e1, scals_flat e2, k F H _ _ (Stp.refl w) (rep_bl.mpr rfl) h⟩)
  | _ => exact False.elim h

theorem od_in {K : PySem.W.Frag} : OpD (rInG K false) fIn := od_inG
theorem od_nin {K : PySem.W.Frag} : OpD (rInG K true) fNin := od_inG

/-! ### subscripts, slices -/
def lookD (ks : List Key) (vs : List DV) (k : Key) : Option DV := ((ks.zip vs).find? fun p => decide (p.1 = k)).map (·.2)
def fIx (x y : DV) (Q : DV → Prop) : Prop := match x with
  | .lst xs => ∃ i d, y = .int i ∧ atI xs i = some d ∧ Q d
  | .lsa _ xs => ∃ i d, y = .int i ∧ atI xs i = some d ∧ Q d
  | .tup xs => ∃ i d, y = .int i ∧ atI xs i = some d ∧ Q d
  | .str z => ∃ i c, y = .int i ∧ z.length ≤ sizeLine ∧ atI z.cps.toList i = some c ∧ Q (.str ⟨#[c]⟩)
  | .dic ks vs => ∃ k d, keyD y = some k ∧ lookD ks vs k = some d ∧ Q d
  | _ => False
def rIxDic : R2 := fun x y H Q => ∃ a v, x = .ref a ∧ DGet H a y (some v) ∧ Q v H
theorem ix_dic (hu : X.A.units + 100 < cLine) : IxR X rIxDic := by
  intro value slice pins s σ H x y v u Q I rx ry h hs
  obtain ⟨a, z, rfl, g, q⟩ := h
  obtain rfl : v = Value.ref a := rx
  exact PyProof.Rows.tail_any (dict_typeIs I g) PySem.F.slot_dict_getitem.lookup (d_getItem (by omega) I g ry fun w' s3 I3 rw' => ⟨z, H, I3, rw', q⟩) hs
theorem oo_ix (hu : X.A.units + 100 < cLine) : IxR X (fun x y H Q => rIx X.K x y H Q ∨ rIxDic x y H Q) := ix_seq.or (ix_dic hu)
theorem Reps.atI {F : Wo} {ds : List DV} {vs : List V} {i : Int} {d : DV} (h : Reps F ds vs) (e : L2.atI ds i = some d) : ∃ v, L2.atI vs i = some v ∧ Rep F d v := by
  unfold L2.atI at *
  rw [← h.length]
  cases z : ixN ds.length i with
  | none => rw [z] at e; cases e
  | some j =>
    rw [z] at e
    obtain ⟨v, hv, r⟩ := h.get (show ds[j]? = some d from e)
    exact ⟨v, hv, r⟩
theorem lookD_val {F : Wo} {k : Key} : ∀ {ds : List DV} {kvs : List (Key × V)} {d : DV}, Reps F ds (kvs.map (·.2)) → lookD (kvs.map (·.1)) ds k = some d → ∃ v, valV kvs k = some v ∧ Rep F d v
  | _, [], _, _, e => by simp [lookD] at e
  | ds, kv :: kvs, d, h, e => by
    cases ds with
    | nil => simp [lookD] at e
    | cons d0 ds =>
      obtain ⟨v, r, e0, q, qs⟩ := reps_cons.mp h
      rw [List.map_cons] at e0
      cases e0
      by_cases c : kv.1 = k
      · rw [valV_pos c]
        simp [lookD, List.find?_cons, c] at e
        subst e
        exact ⟨_, rfl, q⟩
      · rw [valV_neg c]
        simp [lookD, List.find?_cons, c] at e
        exact lookD_val qs (by simpa [lookD] using e)
theorem od_ix {K : PySem.W.Frag} : OpD (fun x y H Q => rIx K x y H Q ∨ rIxDic x y H Q) fIx := by
  intro B F H x y dx dy Q Q' w hx hy h k
  cases dx with
  | lst xs =>
    obtain ⟨a, vs, rfl, f, q⟩ := rep_lst.mp hx
    obtain ⟨i, d, rfl, e, h⟩ := h
    obtain ⟨v, hv, r⟩ := q.atI e
    rw [rep_int.mp hy]
    exact .inl (.inl ⟨a, vs, i, v, rfl, rfl, SqL.of (w.sqL (K := K) f), hv, k F H _ _ (Stp.refl w) r h⟩)
  | lsa a xs =>
    obtain ⟨rfl, vs, f, q⟩ := rep_lsa.mp hx
    obtain ⟨i, d, rfl, e, h⟩ := h
    obtain ⟨v, hv, r⟩ := q.atI e
    rw [rep_int.mp hy]
    exact .inl (.inl ⟨a, vs, i, v, rfl, rfl, SqL.of (w.sqL (K := K) f), hv, k F H _ _ (Stp.refl w) r h⟩)
  | tup xs =>
    obtain ⟨a, vs, rfl, f, q⟩ := rep_tup.mp hx
    obtain ⟨i, d, rfl, e, h⟩ := h
    obtain ⟨v, hv, r⟩ := q.atI e
    rw [rep_int.mp hy]
    exact .inl (.inr (.inl ⟨a, vs, i, v, rfl, rfl, SqT.of (w.sqT (K := K) f), hv, k F H _ _ (Stp.refl w) r h⟩))
  | str z =>
    obtain ⟨i, c, rfl, hz, e, h⟩ := h
    rw [rep_str.mp hx, rep_int.mp hy]
    exact .inl (.inr (.inr ⟨z, i, c, rfl, rfl, hz, e, k F H _ _ (Stp.refl w) (rep_str.mpr rfl) h⟩))
  | dic ks vs =>
    obtain ⟨c, d, e, l, h⟩ := h
    obtain ⟨a, kvs, rfl, f, hk, q⟩ := rep_dic.mp hx
    subst hk
    obtain ⟨v, hv, r⟩ := lookD_val q l
    exact .inr ⟨a, v, rfl, .inl ⟨kvs, c, w.rdD f, rep_key hy e, hv.symm⟩, k F H _ _ (Stp.refl w) r h⟩
  | _ => exact False.elim h
/-- the same of an own object -/
theorem own_ix {K : PySem.W.Frag} {B : Bs} {F : Wo} {H : Hp} {p : Addr} {y : V} {dx dy : DV} {Q : VK} {Q' : DV → Prop} (w : Wd B F H) (hx : OwnAt F H p dx) (hy : Rep F dy y) (h : fIx dx dy Q')
    (k : ∀ d v, Rep F d v → Q' d → Q v H) : rIx K (.ref p) y H Q ∨ rIxDic (.ref p) y H Q := by
  cases dx with
  | lst xs =>
    obtain ⟨vs, f, q⟩ := hx
    obtain ⟨i, d, rfl, e, h⟩ := h
    obtain ⟨v, hv, r⟩ := q.atI e
    rw [rep_int.mp hy]
    exact .inl (.inl ⟨p, vs, i, v, rfl, rfl, SqL.of f, hv, k _ _ r h⟩)
  | lsa a xs =>
    obtain ⟨rfl, vs, f, q⟩ := hx
    obtain ⟨i, d, rfl, e, h⟩ := h
    obtain ⟨v, hv, r⟩ := q.atI e
    rw [rep_int.mp hy]
    exact .inl (.inl ⟨p, vs, i, v, rfl, rfl, SqL.of f, hv, k _ _ r h⟩)
  | dic ks vs =>
    obtain ⟨c, d, e, l, h⟩ := h
    obtain ⟨kvs, f, hk, q⟩ := hx
    subst hk
    obtain ⟨v, hv, r⟩ := lookD_val q l
    exact .inr ⟨p, v, rfl, .inl ⟨kvs, c, .inl f, rep_key hy e, hv.symm⟩, k _ _ r h⟩
  | _ => first | exact False.elim hx | exact False.elim h
def cutD (xs : List DV) (lo hi : Option Int) : List DV := (xs.drop (HT.sIx xs.length 0 lo)).take (HT.sIx xs.length xs.length hi - HT.sIx xs.length 0 lo)
theorem Reps.cut {F : Wo} {ds : List DV} {vs : List V} (h : Reps F ds vs) (lo hi : Option Int) : Reps F (cutD ds lo hi) (cutV vs lo hi) := by
  unfold cutD cutV
  rw [← h.length]
  exact (h.drop _).take _
def fSl (x : DV) (lo hi : Option Int) (Q : DV → Prop) : Prop := match x with
  | .lst xs => Q (.lst (cutD xs lo hi))
  | .tup xs => Q (.tup (cutD xs lo hi))
  | .str z => z.length ≤ sizeLine ∧ Q (.str (cutS z lo hi))
  | _ => False
theorem oo_sl : SlR X (fun x lo hi H Q => rSlL X.K x lo hi H Q ∨ rSlA X.K x lo hi H Q ∨ rSlS x lo hi H Q) := SlR.or sl_list (SlR.or sl_tupA sl_str)
theorem od_sl {K : PySem.W.Frag} : SlD (fun x lo hi H Q => rSlL K x lo hi H Q ∨ rSlA K x lo hi H Q ∨ rSlS x lo hi H Q) fSl := by
  intro B F H x dx lo hi Q Q' w hx h k
  cases dx with
  | lst xs =>
    obtain ⟨a, vs, rfl, f, q⟩ := rep_lst.mp hx
    refine .inl ⟨a, vs, rfl, SqL.of (w.sqL (K := K) f), fun p hp => ?_⟩
    obtain ⟨s, hr⟩ := Stp.lstN w hp (q.cut lo hi)
    exact k _ _ _ _ s hr h
  | tup xs =>
    obtain ⟨a, vs, rfl, f, q⟩ := rep_tup.mp hx
    refine .inr (.inl ⟨a, vs, rfl, SqT.of (w.sqT (K := K) f), fun e => ?_, fun _ p hp => ?_⟩)
    · have z : cutD xs lo hi = xs := by
        unfold cutD
        rw [q.length, e.1, e.2]
        rw [List.drop_zero, Nat.sub_zero, ← q.length, List.take_length]
      have h : Q' (.tup (cutD xs lo hi)) := h
      rw [z] at h
      exact k F H _ _ (Stp.refl w) hx h
    · obtain ⟨s, hr⟩ := Stp.tupN w hp (q.cut lo hi)
      exact k _ _ _ _ s hr h
  | str z =>
    rw [rep_str.mp hx]
    exact .inr (.inr ⟨z, rfl, h.1, k F H _ _ (Stp.refl w) (rep_str.mpr rfl) h.2⟩)
  | _ => exact False.elim h
end
end DL

/-! The data layer, part D: statements, walks, defs. -/
namespace DL
open PySem L2

structure DEnds where
  nx : DSt → Prop
  rt : DV → DSt → Prop
  bk : DSt → Prop := fun _ => False
  ct : DSt → Prop := fun _ => False
abbrev ASt := DEnds → DSt → Prop
structure EOk (B : Bs) (F : Wo) (K : DEnds) (D : Ends) : Prop where
  nx : ∀ F' H' σ' ρ', Wd B F' H' → Ext F F' → RSt B F' ρ' σ' H' → K.nx ρ' → D.nx σ' H'
  bk : ∀ F' H' σ' ρ', Wd B F' H' → Ext F F' → RSt B F' ρ' σ' H' → K.bk ρ' → D.bk σ' H'
  ct : ∀ F' H' σ' ρ', Wd B F' H' → Ext F F' → RSt B F' ρ' σ' H' → K.ct ρ' → D.ct σ' H'
  rt : ∀ F' H' σ' ρ' d v, Wd B F' H' → Ext F F' → RSt B F' ρ' σ' H' → Rep F' d v → K.rt d ρ' → D.rt v H'
theorem EOk.mono {B : Bs} {F F1 : Wo} {K : DEnds} {D : Ends} (h : EOk B F K D) (x : Ext F F1) : EOk B F1 K D :=
  ⟨fun F' H' σ' ρ' w e => h.nx F' H' σ' ρ' w (x.trans e), fun F' H' σ' ρ' w e => h.bk F' H' σ' ρ' w (x.trans e), fun F' H' σ' ρ' w e => h.ct F' H' σ' ρ' w (x.trans e), fun F' H' σ' ρ' d v w e => h.rt F' H' σ' ρ' d v w (x.trans e)⟩
def tDS (a : ASt) : TS := fun D σ H => ∃ B F ρ K, Wd B F H ∧ RSt B F ρ σ H ∧ a K ρ ∧ EOk B F K D
structure DS (X : Cx) (s : Stmt) (a : ASt) : Prop where
  ps : PS X s (tDS a)
structure DSs (X : Cx) (s : List Stmt) (a : ASt) : Prop where
  ps : PSs X s (tDS a)
theorem ps_imp {X : Cx} {s : Stmt} {t t' : TS} (h : PS X s t) (k : ∀ D σ H, t' D σ H → t D σ H) : PS X s t' :=
  ⟨fun pins s σ H D I w => h.run pins s σ H D I (k D σ H w)⟩
theorem pss_imp {X : Cx} {s : List Stmt} {t t' : TS} (h : PSs X s t) (k : ∀ D σ H, t' D σ H → t D σ H) : PSs X s t' :=
  ⟨fun pins s σ H D I w => h.run pins s σ H D I (k D σ H w)⟩

section
variable {B : Bs} {X : Cx} {pos : Pos} {st : Stmt} {rest : List Stmt} {s1 s2 : List Stmt} {t u : ASt} {e : Expr} {a : AE}
def dSkip : ASt := fun K ρ => K.nx ρ
/-- one after another; in dSeqC what holds between, M, may be chosen -/
def dSeq (t u : ASt) : ASt := fun K ρ => t { nx := fun ρ1 => u K ρ1, rt := K.rt, bk := K.bk, ct := K.ct } ρ
def dSeqC (t u : ASt) : ASt := fun K ρ => ∃ M : DSt → Prop, t { nx := M, rt := K.rt, bk := K.bk, ct := K.ct } ρ ∧ ∀ ρ', M ρ' → u K ρ'
theorem dss_nil : DSs X [] dSkip := ⟨pss_imp pss_nil fun D σ H ⟨B, F, ρ, K, w, r, a, k⟩ => k.nx F H σ ρ w (Ext.refl F) r a⟩
theorem dss_cutc (h1 : DS X st t) (h2 : DSs X rest u) : DSs X (st :: rest) (dSeqC t u) := by
  refine ⟨pss_imp (pss_cons h1.ps h2.ps) fun D σ H h => ?_⟩
  obtain ⟨B, F, ρ, K, w, r, ⟨M, q, z⟩, k⟩ := h
  refine ⟨B, F, ρ, _, w, r, q, ⟨fun F' H' σ' ρ' w' x' r' q' => ?_, k.bk, k.ct, k.rt⟩⟩
  exact ⟨B, F', ρ', K, w', r', z ρ' q', k.mono x'⟩
theorem dss_cons (h1 : DS X st t) (h2 : DSs X rest u) : DSs X (st :: rest) (dSeq t u) :=
  ⟨pss_imp (dss_cutc h1 h2).ps fun D σ H ⟨B, F, ρ, K, w, r, q, k⟩ => ⟨B, F, ρ, K, w, r, ⟨u K, q, fun _ z => z⟩, k⟩⟩
theorem dss_one (h1 : DS X st t) : DSs X [st] t := ⟨pss_one h1.ps⟩
theorem ds_pass : DS X (.Pass pos) dSkip := ⟨ps_imp ps_pass fun D σ H ⟨B, F, ρ, K, w, r, a, k⟩ => k.nx F H σ ρ w (Ext.refl F) r a⟩
def dBreak : ASt := fun K ρ => K.bk ρ
def dCont : ASt := fun K ρ => K.ct ρ
theorem ds_break : DS X (.Break pos) dBreak := ⟨ps_imp ps_break fun D σ H ⟨B, F, ρ, K, w, r, a, k⟩ => k.bk F H σ ρ w (Ext.refl F) r a⟩
theorem ds_continue : DS X (.Continue pos) dCont := ⟨ps_imp ps_continue fun D σ H ⟨B, F, ρ, K, w, r, a, k⟩ => k.ct F H σ ρ w (Ext.refl F) r a⟩
theorem ds_doc {x j pos'} : DS X (.Expr (.Constant (.str x) j pos) pos') dSkip := ⟨ps_imp ps_doc fun D σ H ⟨B, F, ρ, K, w, r, a, k⟩ => k.nx F H σ ρ w (Ext.refl F) r a⟩
def dDrop (a : AE) : ASt := fun K ρ => a ρ fun _ ρ1 => K.nx ρ1
theorem ds_expr (h : DE X e a) (hs : swapsWith e none pos.line X.env = pure false := by rfl) : DS X (.Expr e pos) (dDrop a) := by
  refine ⟨ps_imp (ps_expr h.pe hs) fun D σ H h => ?_⟩
  obtain ⟨B, F, ρ, K, w, r, q, k⟩ := h
  exact ⟨B, F, ρ, _, w, r, q, fun F' H' ρ' d v w' x' r' hr q' => k.nx F' H' σ ρ' w' x' r' q'⟩
def dRet (a : AE) : ASt := fun K ρ => a ρ fun d ρ1 => K.rt d ρ1
theorem ds_ret (h : DE X e a) : DS X (.Return (some e) pos) (dRet a) := by
  refine ⟨ps_imp (ps_ret h.pe) fun D σ H h => ?_⟩
  obtain ⟨B, F, ρ, K, w, r, q, k⟩ := h
  exact ⟨B, F, ρ, _, w, r, q, fun F' H' ρ' d v w' x' r' hr q' => k.rt F' H' σ ρ' d v w' x' r' hr q'⟩
def dRetN : ASt := fun K ρ => K.rt .non ρ
theorem ds_retN : DS X (.Return none pos) dRetN := ⟨ps_imp ps_retN fun D σ H ⟨B, F, ρ, K, w, r, a, k⟩ => k.rt F H σ ρ _ _ w (Ext.refl F) r (rep_non.mpr rfl) a⟩
def dIfS (c : AT) (t u : ASt) : ASt := fun K ρ => c ρ fun b ρ1 => if b = true then t K ρ1 else u K ρ1
theorem ds_if {c : AT} (hc : DT X e c) (h1 : DSs X s1 t) (h2 : DSs X s2 u) : DS X (.If e s1 s2 pos) (dIfS c t u) := by
  refine ⟨ps_imp (ps_if hc.pt h1.ps h2.ps) fun D σ H h => ?_⟩
  obtain ⟨B, F, ρ, K, w, r, q, k⟩ := h
  refine ⟨B, F, ρ, _, w, r, q, fun F' H' ρ' b w' x' r' q' => ?_⟩
  cases b with
  | true => rw [if_pos rfl] at q' ⊢; exact ⟨B, F', ρ', K, w', r', q', k.mono x'⟩
  | false => rw [if_neg Bool.false_ne_true] at q' ⊢; exact ⟨B, F', ρ', K, w', r', q', k.mono x'⟩
def dNever : ASt := fun _ _ => False
theorem ds_never : DS X st dNever := ⟨ps_imp ps_never fun D σ H ⟨B, F, ρ, K, w, r, a, k⟩ => a⟩
theorem dss_never : DSs X rest dNever := ⟨pss_imp pss_never fun D σ H ⟨B, F, ρ, K, w, r, a, k⟩ => a⟩

/-! ### targets -/
abbrev AG := DV → DSt → (DSt → Prop) → Prop
abbrev AGs := List DV → DSt → (DSt → Prop) → Prop
/-- but for the slots of js -/
def Butt (js : List Nat) (σ σ' : St) : Prop := σ'.length = σ.length ∧ ∀ j, j ∉ js → σ'[j]? = σ[j]?
def tDG (js : List Nat) (g : AG) : TG := fun v σ H Q => ∃ B F ρ d Q', Wd B F H ∧ RSt B F ρ σ H ∧ Rep F d v ∧ g d ρ Q' ∧
  ∀ F' H' σ' ρ', Wd B F' H' → Ext F F' → RSt B F' ρ' σ' H' → Q' ρ' → Butt js σ σ' → Q σ' H'
def tDGs (js : List Nat) (g : AGs) : TGs := fun vs σ H Q => ∃ B F ρ ds Q', Wd B F H ∧ RSt B F ρ σ H ∧ Reps F ds vs ∧ g ds ρ Q' ∧
  ∀ F' H' σ' ρ', Wd B F' H' → Ext F F' → RSt B F' ρ' σ' H' → Q' ρ' → Butt js σ σ' → Q σ' H'
structure DG (X : Cx) (js : List Nat) (tg : Expr) (g : AG) : Prop where
  pg : PG X tg (tDG js g)
structure DGs (X : Cx) (js : List Nat) (ts : List Expr) (g : AGs) : Prop where
  pg : PGs X ts (tDGs js g)
theorem pg_imp {X : Cx} {e : Expr} {t t' : TG} (h : PG X e t) (k : ∀ v σ H Q, t' v σ H Q → t v σ H Q) : PG X e t' :=
  ⟨fun pins s σ H v u Q I r w => h.run pins s σ H v u Q I r (k v σ H Q w)⟩
theorem pgs_imp {X : Cx} {e : List Expr} {t t' : TGs} (h : PGs X e t) (k : ∀ v σ H Q, t' v σ H Q → t v σ H Q) : PGs X e t' :=
  ⟨fun pins s σ H v u Q I r w => h.run pins s σ H v u Q I r (k v σ H Q w)⟩
theorem RSt.put' {B : Bs} {F : Wo} {ρ : DSt} {σ : St} {H : Hp} (r : RSt B F ρ σ H) (i : Nat) {d : DV} {v : V} (h : Rep F d v) : RSt B F (ρ.set i (some (Lv.val d))) (σ.set i (some v)) H := by
  by_cases hi : i < ρ.length
  · exact r.put hi h
  · rw [List.set_eq_of_length_le (by omega), List.set_eq_of_length_le (by rw [← r.len]; omega)]; exact r
variable {js ks : List Nat}
def gN (i : Nat) : AG := fun d ρ Q => Q (ρ.set i (some (Lv.val d)))
theorem butt_set {i : Nat} {σ : St} {v : Option V} : Butt [i] σ (σ.set i v) := by
  refine ⟨List.length_set, fun j hj => ?_⟩
  have : j ≠ i := by simpa using hj
  rw [List.getElem?_set_ne (Ne.symm this)]
theorem dg_name {i : Nat} {x : Str} (hN : X.N.Nodup) (hi : X.N[i]? = some x) (hx : Loc X.env.scope x) (hf : X.fn x = true ∨ X.env.scope.names.lookup x = some .local := by first | exact .inl rfl | exact .inr rfl | assumption) : DG X [i] (.Name x pos) (gN i) :=
  ⟨pg_imp (pg_name hN hi hx hf) fun v σ H Q ⟨B, F, ρ, d, Q', w, r, hr, g, k⟩ => k F H _ _ w (Ext.refl F) (r.put' i hr) g butt_set⟩
def gNl : AGs := fun ds ρ Q => ds = [] ∧ Q ρ
def gCn (g : AG) (u : AGs) : AGs := fun ds ρ Q => match ds with
  | [] => False
  | d :: r => g d ρ fun ρ1 => u r ρ1 Q
theorem dgs_nil : DGs X [] [] gNl := by
  refine ⟨pgs_imp pgs_nil fun vs σ H Q ⟨B, F, ρ, ds, Q', w, r, hr, g, k⟩ => ?_⟩
  obtain ⟨rfl, q⟩ := g
  exact ⟨reps_nil.mp hr, k F H σ ρ w (Ext.refl F) r q ⟨rfl, fun _ _ => rfl⟩⟩
theorem dgs_cons {e : Expr} {es : List Expr} {g : AG} {u : AGs} (h1 : DG X js e g) (h2 : DGs X ks es u) (hs : (assignEach (e :: es) X.env).map (·.2) = assign e X.env :: (assignEach es X.env).map (·.2) := by rfl) : DGs X (js ++ ks) (e :: es) (gCn g u) := by
  refine ⟨pgs_imp (pgs_cons h1.pg h2.pg hs) fun vs σ H Q ⟨B, F, ρ, ds, Q', w, r, hr, q, k⟩ => ?_⟩
  cases ds with
  | nil => exact False.elim q
  | cons d ds =>
    obtain ⟨v, vs, rfl, hd, hds⟩ := reps_cons.mp hr
    refine ⟨v, vs, rfl, B, F, ρ, d, _, w, r, hd, q, fun F1 H1 σ1 ρ1 w1 x1 r1 q1 b1 => ?_⟩
    refine ⟨B, F1, ρ1, ds, Q', w1, r1, hds.mono x1, q1, fun F2 H2 σ2 ρ2 w2 x2 r2 q2 b2 => k F2 H2 σ2 ρ2 w2 (x1.trans x2) r2 q2 ⟨b2.1.trans b1.1, fun j hj => ?_⟩⟩
    rw [List.mem_append, not_or] at hj
    exact (b2.2 j hj.2).trans (b1.2 j hj.1)
def gTp (n : Nat) (u : AGs) : AG := fun d ρ Q => match d with
  | .tup ds => ds.length = n ∧ u ds ρ Q
  | _ => False
theorem dg_tup {es : List Expr} {k : Nat} {u : AGs} {n : Nat} (hc : X.calm = true) (h : DGs X js es u)
    (hn : (assignEach es X.env).length = n := by rfl) (hst : (assignEach es X.env).findIdx? (·.1) = none := by rfl) : DG X js (.Tuple es k pos) (gTp n u) := by
  refine ⟨pg_imp (pg_tup hc h.pg hn hst) fun v σ H Q ⟨B, F, ρ, d, Q', w, r, hr, q, k⟩ => ?_⟩
  cases d with
  | tup ds =>
    obtain ⟨a, vs, rfl, f, hs⟩ := rep_tup.mp hr
    exact ⟨a, vs, rfl, SqT.of (w.sqT (K := X.K) f), by rw [← hs.length]; exact q.1, B, F, ρ, ds, Q', w, r, hs, q.2, k⟩
  | _ => exact False.elim q
def dAsg (a : AE) (g : AG) : ASt := fun K ρ => a ρ fun x ρ1 => g x ρ1 K.nx
theorem ds_asg {tg : Expr} {g : AG} (he : DE X e a) (hg : DG X js tg g) (hs : swapsWithSole [tg] e pos.line X.env = pure false := by rfl) (hw : swappedStores [tg] e X.env = pure none := by rfl)
    (h1 : (assignEach [tg] X.env).map (·.2) = [assign tg X.env] := by rfl) : DS X (.Assign [tg] e pos) (dAsg a g) := by
  refine ⟨ps_imp (ps_asg he.pe hg.pg hs hw h1) fun D σ H h => ?_⟩
  obtain ⟨B, F, ρ, K, w, r, q, k⟩ := h
  refine ⟨B, F, ρ, _, w, r, q, fun F' H' ρ' d v w' x' r' hr q' => ?_⟩
  exact ⟨B, F', ρ', d, _, w', r', hr, q', fun F2 H2 σ2 ρ2 w2 x2 r2 q2 _ => k.nx F2 H2 σ2 ρ2 w2 (x'.trans x2) r2 q2⟩
theorem ds_set {i : Nat} {x : Str} {pos' : Pos} (hN : X.N.Nodup) (hi : X.N[i]? = some x) (hx : Loc X.env.scope x) (he : DE X e a) (hs : swapsWith e (some (.Name x pos')) pos.line X.env = pure false := by rfl) (hf : X.fn x = true ∨ X.env.scope.names.lookup x = some .local := by first | exact .inl rfl | exact .inr rfl | assumption) :
    DS X (.Assign [.Name x pos'] e pos) (dAsg a (gN i)) := by
  refine ⟨ps_imp (ps_set hN hi hx he.pe hs hf) fun D σ H h => ?_⟩
  obtain ⟨B, F, ρ, K, w, r, q, k⟩ := h
  refine ⟨B, F, ρ, _, w, r, q, fun F' H' ρ' d v w' x' r' hr q' => ?_⟩
  exact k.nx F' H' _ _ w' x' (r'.put' i hr) q'
/-- a, b = e1, e2 -/
def dPar (i j : Nat) (t : AA) : ASt := fun K ρ => t ρ fun ds ρ1 => match ds with
  | [x, y] => K.nx ((ρ1.set i (some (Lv.val x))).set j (some (Lv.val y)))
  | _ => False
theorem ds_par {i j : Nat} {x y : Str} {e1 e2 : Expr} {t : AA} {px py pt : Pos} {kt k2 pt2} (hc : X.calm = true) (hN : X.N.Nodup) (hi : X.N[i]? = some x) (hj : X.N[j]? = some y) (hij : i ≠ j)
    (hx : X.env.scope.names.lookup x = some .local) (hy : X.env.scope.names.lookup y = some .local) (ha : DA X [e1, e2] t)
    (hw : swappedStores [.Tuple [.Name x px, .Name y py] kt pt] (.Tuple [e1, e2] k2 pt2) X.env = pure (some [x, y]))
    (hs : swapsWithSole [.Tuple [.Name x px, .Name y py] kt pt] (.Tuple [e1, e2] k2 pt2) pos.line X.env = pure false := by rfl) :
    DS X (.Assign [.Tuple [.Name x px, .Name y py] kt pt] (.Tuple [e1, e2] k2 pt2) pos) (dPar i j t) := by
  refine ⟨ps_imp (ps_par hc hN hi hj hij hx hy ha.pa hw hs) fun D σ H h => ?_⟩
  obtain ⟨B, F, ρ, K, w, r, q, k⟩ := h
  refine ⟨B, F, ρ, _, w, r, q, fun F' H' ρ' ds vs w' x' r' hr q' => ?_⟩
  match ds, q' with
  | [d1, d2], q' =>
    obtain ⟨v1, vs, rfl, h1, hr⟩ := reps_cons.mp hr
    obtain ⟨v2, vs, rfl, h2, hr⟩ := reps_cons.mp hr
    rw [reps_nil.mp hr]
    exact ⟨v1, v2, rfl, k.nx F' H' _ _ w' x' ((r'.put' i h1).put' j h2) q'⟩
def dAug (i : Nat) (a : AE) (f : DV → DV → (DV → Prop) → Prop) : ASt := fun K ρ => match ρ[i]? with
  | some (some (Lv.val d)) => a ρ fun y ρ1 => f d y fun z => K.nx (ρ1.set i (some (Lv.val z)))
  | _ => False
theorem ds_aug {i : Nat} {x : Str} {op : Operator} {r : R2} {f : DV → DV → (DV → Prop) → Prop} {pos' : Pos} (hN : X.N.Nodup) (hi : X.N[i]? = some x) (hx : Loc X.env.scope x) (he : DE X e a) (ho : OpR X (inplaceOp op) r) (hof : OpD r f)
    (hf : X.fn x = true ∨ X.env.scope.names.lookup x = some .local := by first | exact .inl rfl | exact .inr rfl | assumption) : DS X (.AugAssign (.Name x pos') op e pos) (dAug i a f) := by
  refine ⟨ps_imp (ps_aug hN hi hx he.pe (ti := r) ho hf) fun D σ H h => ?_⟩
  obtain ⟨B, F, ρ, K, w, r0, q, k⟩ := h
  unfold dAug at q
  split at q
  next d z =>
    obtain ⟨v, hs, hr⟩ := r0.val i d z
    refine ⟨v, hs, B, F, ρ, _, w, r0, q, fun F' H' ρ' y vy w' x' r' hy q' => ?_⟩
    exact hof B F' H' v vy d y _ _ w' (hr.mono x') hy q' fun F2 H2 d2 v2 s2 hr2 q2 => k.nx F2 H2 _ _ s2.wd (x'.trans s2.ext) ((s2.st _ _ r').put' i hr2) q2
  next => exact False.elim q
end

/-! ### walks -/
/-- what is walked: the items, as they stand from F on -/
structure IOk (F : Wo) (J : It) (ds : List DV) : Prop where
  go : ∀ B F2 H2 i, Wd B F2 H2 → Ext F F2 → i < ds.length → J.go i H2
  stop : ∀ B F2 H2, Wd B F2 H2 → Ext F F2 → J.stop ds.length H2
  yld : ∀ B F2 H2 i x H', Wd B F2 H2 → Ext F F2 → i < ds.length → J.yld i H2 x H' → ∃ F' d, Stp B F2 H2 F' H' ∧ ds[i]? = some d ∧ Rep F' d x
abbrev AI := DSt → (List DV → DSt → Prop) → Prop
def tDI (a : AI) : TI := fun σ H R => ∃ B F ρ Q', Wd B F H ∧ RSt B F ρ σ H ∧ a ρ Q' ∧
  ∀ F' H' ρ' ds J, Wd B F' H' → Ext F F' → RSt B F' ρ' σ H' → IOk F' J ds → Q' ds ρ' → R J H'
structure DI (X : Cx) (tg e : Expr) (a : AI) : Prop where
  pi : PI X tg e (tDI a)
section
variable {X : Cx} {pos : Pos} {tg e : Expr} {a : AE}
theorem iok_list {F : Wo} {p : Addr} {vs : List V} {ds : List DV} {K : PySem.W.Frag} (f : F.fz p = some (.lst vs)) (h : Reps F ds vs) : IOk F (Itl K p) ds := by
  have key : ∀ B F2 H2, Wd B F2 H2 → Ext F F2 → SqL K H2 p vs := fun B F2 H2 w e => SqL.of (w.sqL (K := K) (e.1 _ _ f))
  have hl := h.length
  refine ⟨fun B F2 H2 i w e hi => ⟨vs, vs[i]'(by omega), key B F2 H2 w e, by simp⟩, fun B F2 H2 w e => ⟨vs, key B F2 H2 w e, by omega⟩, fun B F2 H2 i x H' w e hi y => ?_⟩
  obtain ⟨rfl, y⟩ := y
  obtain ⟨d, hd, hr⟩ := h.getV (y vs (key B F2 _ w e))
  exact ⟨F2, d, Stp.refl w, hd, hr.mono e⟩
theorem iok_tup {F : Wo} {p : Addr} {vs : List V} {ds : List DV} {K : PySem.W.Frag} (f : F.fz p = some (.tup vs)) (h : Reps F ds vs) : IOk F (Itt K p) ds := by
  have key : ∀ B F2 H2, Wd B F2 H2 → Ext F F2 → SqT K H2 p vs := fun B F2 H2 w e => SqT.of (w.sqT (K := K) (e.1 _ _ f))
  have hl := h.length
  refine ⟨fun B F2 H2 i w e hi => ⟨vs, vs[i]'(by omega), key B F2 H2 w e, by simp⟩, fun B F2 H2 w e => ⟨vs, key B F2 H2 w e, by omega⟩, fun B F2 H2 i x H' w e hi y => ?_⟩
  obtain ⟨rfl, y⟩ := y
  obtain ⟨d, hd, hr⟩ := h.getV (y vs (key B F2 _ w e))
  exact ⟨F2, d, Stp.refl w, hd, hr.mono e⟩
def signs (z : Str) : List DV := z.cps.toList.map fun c => .str ⟨#[c]⟩
theorem iok_str {F : Wo} {z : Str} : IOk F (Its z) (signs z) := by
  have hl : (signs z).length = z.cps.size := by simp [signs]
  refine ⟨fun B F2 H2 i w e hi => (show i < z.cps.size by omega), fun B F2 H2 w e => (show z.cps.size ≤ _ by omega), fun B F2 H2 i x H' w e hi y => ?_⟩
  obtain ⟨rfl, c, hc, rfl⟩ := y
  refine ⟨F2, .str ⟨#[c]⟩, Stp.refl w, ?_, rep_str.mpr rfl⟩
  simp [signs, hc]
def rangeD (lo : Int) (n : Nat) : List DV := (List.range n).map fun i => .int (lo + (i : Nat))
theorem iok_range {F : Wo} {lo : Int} {n : Nat} : IOk F (Itr lo n) (rangeD lo n) := by
  have hl : (rangeD lo n).length = n := by simp [rangeD]
  refine ⟨fun B F2 H2 i w e hi => (show i < n by omega), fun B F2 H2 w e => (show n ≤ _ by omega), fun B F2 H2 i x H' w e hi y => ?_⟩
  obtain ⟨rfl, rfl⟩ := y
  refine ⟨F2, _, Stp.refl w, ?_, rep_int.mpr rfl⟩
  simp [rangeD, show i < n by omega]
def keyV : Key → DV
  | .inl i => .int i
  | .inr x => .str x
theorem rep_keyV {F : Wo} (k : Key) : Rep F (keyV k) (kV k) := by
  cases k
  · exact rep_int.mpr rfl
  · exact rep_str.mpr rfl
theorem iok_keys {F : Wo} {p : Addr} {kvs : List (Key × V)} {ob : Obj} (f : F.fz p = some (.dK kvs)) (hp : ∀ B F2 H2, Wd B F2 H2 → Ext F F2 → H2 p = some (.frz ob (.dK kvs))) : IOk F (Itk p ob kvs) ((kvs.map (·.1)).map keyV) := by
  have hl : ((kvs.map (·.1)).map keyV).length = kvs.length := by simp
  have wk := walk_keys (d := p) (o := ob) (kvs := kvs)
  refine ⟨fun B F2 H2 i w e hi => wk.goes i H2 (by omega) (hp B F2 H2 w e), fun B F2 H2 w e => by rw [hl]; exact wk.stops H2 (hp B F2 H2 w e), fun B F2 H2 i x H' w e hi y => ?_⟩
  obtain ⟨rfl, k, v, hk, rfl⟩ := wk.yields i H2 x H' (by omega) (hp B F2 H2 w e) y
  exact ⟨F2, keyV k, Stp.refl w, by rw [List.getElem?_map, List.getElem?_map, hk]; rfl, rep_keyV k⟩
/-- a list, a tuple, a text -/
def fSeq (d : DV) (Q : List DV → Prop) : Prop := match d with
  | .lst xs => Q xs
  | .tup xs => Q xs
  | .str z => Q (signs z)
  | _ => False
def dIt (a : AE) : AI := fun ρ Q => a ρ fun d ρ1 => fSeq d fun ds => Q ds ρ1
theorem di_seq (h : DE X e a) : DI X tg e (dIt a) := by
  refine ⟨⟨fun pins s σ H R I h0 => ?_⟩⟩
  obtain ⟨B, F, ρ, Q', w, r, q, k⟩ := h0
  refine thn (h.pe.run pins s σ H (fun x H1 => ∃ F1 ρ1 d, Wd B F1 H1 ∧ Ext F F1 ∧ RSt B F1 ρ1 σ H1 ∧ Rep F1 d x ∧ fSeq d (fun ds => Q' ds ρ1)) I ⟨B, F, ρ, _, w, r, q, fun F' H' ρ' d v w' x' r' hr q' => ⟨F', ρ', d, w', x', r', hr, q'⟩⟩) fun u s1 h1 => ?_
  obtain ⟨x, H1, I1, rx, F1, ρ1, d, w1, x1, r1, hr, q1⟩ := h1
  cases d with
  | lst ds =>
    obtain ⟨p, vs, rfl, f, hs⟩ := rep_lst.mp hr
    cases rx
    obtain ⟨its, _, pl, _⟩ := I1.list (SqL.of (w1.sqL (K := X.K) f))
    exact wpAny_pyIter_list pl.isList (pi_one (tk := s1.toks) I1 _ (turn_list p _) ⟨_, Heap.get?_push_size _ rfl, rfl, rfl⟩ (k F1 H1 ρ1 ds _ w1 x1 r1 (iok_list f hs) q1))
  | tup ds =>
    obtain ⟨p, vs, rfl, f, hs⟩ := rep_tup.mp hr
    cases rx
    obtain ⟨its, _, pl, _⟩ := I1.tuple (SqT.of (w1.sqT (K := X.K) f))
    exact wpAny_pyIter_tuple (show s1.heap.IsTuple p its.toArray from pl) (pi_one (tk := s1.toks) I1 _ (turn_tuple p _) ⟨_, Heap.get?_push_size _ rfl, rfl, rfl⟩ (k F1 H1 ρ1 ds _ w1 x1 r1 (iok_tup f hs) q1))
  | str z =>
    have e := rep_str.mp hr
    subst e
    obtain ⟨t, rfl⟩ := rx
    have go := k F1 H1 ρ1 (signs z) (Its z) w1 x1 r1 iok_str q1
    cases ha : z.cps.all (· < 128)
    · exact wpAny_pyIter_wide ha (pi_one (tk := s1.toks) I1 _ (turn_str _ z t "str_iterator" (.inr rfl)) ⟨_, Heap.get?_push_size _ rfl, rfl, rfl⟩ go)
    · exact wpAny_pyIter_ascii ha (pi_one (tk := s1.toks) I1 _ (turn_str _ z t "str_ascii_iterator" (.inl rfl)) ⟨_, Heap.get?_push_size _ rfl, rfl, rfl⟩ go)
  | _ => exact False.elim q1
/-- range(n), range(a, b) -/
def dRng1 (t : AA) : AI := fun ρ Q => t ρ fun ds ρ1 => match ds with
  | [.int j] => -(2 ^ 62) ≤ j ∧ j < 2 ^ 62 ∧ Q (rangeD 0 j.toNat) ρ1
  | _ => False
def dRng2 (t : AA) : AI := fun ρ Q => t ρ fun ds ρ1 => match ds with
  | [.int i, .int j] => (-(2 ^ 62) ≤ i ∧ i < 2 ^ 62 ∧ -(2 ^ 62) ≤ j ∧ j < 2 ^ 62) ∧ Q (rangeD i (j - i).toNat) ρ1
  | _ => False
theorem di_rng1 {e1 : Expr} {t : AA} {p : Pos} (hg : Gl X "range") (hm : X.mg "range" = none) (ha : DA X [e1] t) (hs : starEach [e1] X.env = [(false, eval e1 X.env)] := by rfl) : DI X tg (.Call (.Name "range" p) [e1] [] pos) (dRng1 t) := by
  refine ⟨⟨fun pins s σ H R I h0 => (pi_range1 hg hm ha.pa hs).run pins s σ H R I ?_⟩⟩
  obtain ⟨B, F, ρ, Q', w, r, q, k⟩ := h0
  refine ⟨B, F, ρ, _, w, r, q, fun F1 H1 ρ1 ds vs w1 x1 r1 hs q1 => ?_⟩
  match ds, q1 with
  | [.int j], q1 =>
    obtain ⟨v, vs, rfl, hv, hs⟩ := reps_cons.mp hs
    rw [reps_nil.mp hs, rep_int.mp hv]
    exact ⟨j, rfl, q1.1, q1.2.1, k F1 H1 ρ1 _ _ w1 x1 r1 iok_range q1.2.2⟩
theorem di_rng2 {e1 e2 : Expr} {t : AA} {p : Pos} (hg : Gl X "range") (hm : X.mg "range" = none) (ha : DA X [e1, e2] t) (hs : starEach [e1, e2] X.env = [(false, eval e1 X.env), (false, eval e2 X.env)] := by rfl) (hs2 : starEach [e2] X.env = [(false, eval e2 X.env)] := by rfl) :
    DI X tg (.Call (.Name "range" p) [e1, e2] [] pos) (dRng2 t) := by
  refine ⟨⟨fun pins s σ H R I h0 => (pi_range2 hg hm ha.pa hs hs2).run pins s σ H R I ?_⟩⟩
  obtain ⟨B, F, ρ, Q', w, r, q, k⟩ := h0
  refine ⟨B, F, ρ, _, w, r, q, fun F1 H1 ρ1 ds vs w1 x1 r1 hs q1 => ?_⟩
  match ds, q1 with
  | [.int i, .int j], q1 =>
    obtain ⟨v, vs, rfl, hv, hs⟩ := reps_cons.mp hs
    obtain ⟨v2, vs, rfl, hv2, hs⟩ := reps_cons.mp hs
    rw [reps_nil.mp hs, rep_int.mp hv, rep_int.mp hv2]
    exact ⟨i, j, rfl, q1.1, k F1 H1 ρ1 _ _ w1 x1 r1 iok_range q1.2⟩

/-! ### for -/
def dWalk0 (g : AG) (t : ASt) (K : DEnds) : List DV → DSt → Prop
  | [], ρ => K.nx ρ
  | d :: ds, ρ => g d ρ fun ρ1 => t { nx := fun ρ2 => dWalk0 g t K ds ρ2, rt := K.rt, bk := K.nx, ct := fun ρ2 => dWalk0 g t K ds ρ2 } ρ1
/-- (not unfolded by itself: the list may be written out) -/
@[irreducible] def dWalk (g : AG) (t : ASt) (K : DEnds) (ds : List DV) (ρ : DSt) : Prop := dWalk0 g t K ds ρ
theorem dWalk_nil {g : AG} {t : ASt} {K : DEnds} {ρ : DSt} : dWalk g t K [] ρ = K.nx ρ := by unfold dWalk; rfl
theorem dWalk_cons {g : AG} {t : ASt} {K : DEnds} {d : DV} {ds : List DV} {ρ : DSt} : dWalk g t K (d :: ds) ρ = g d ρ fun ρ1 => t { nx := fun ρ2 => dWalk g t K ds ρ2, rt := K.rt, bk := K.nx, ct := fun ρ2 => dWalk g t K ds ρ2 } ρ1 := by unfold dWalk; rfl
def dFor (ai : AI) (g : AG) (t : ASt) : ASt := fun K ρ => ai ρ fun ds ρ1 => dWalk g t K ds ρ1
theorem ds_for {body : List Stmt} {ai : AI} {js : List Nat} {g : AG} {t : ASt} (hc : X.calm = true) (hi : DI X tg e ai) (hg : DG X js tg g) (hb : DSs X body t)
    (hp : PassesOwn (model X.prog X.w) X.A X.env X.xe := by exact PassesOwn.never) (hs : ∀ x, foldedSetIterable e X.env x = pure x := by intro _; rfl) : DS X (.For tg e body [] pos) (dFor ai g t) := by
  refine ⟨ps_imp (ps_for hp hc hi.pi hg.pg hb.ps hs) fun D σ H h => ?_⟩
  obtain ⟨B, F, ρ, K, w, r, q, k⟩ := h
  refine ⟨B, F, ρ, _, w, r, q, fun F1 H1 ρ1 ds J w1 x1 r1 io q1 => ?_⟩
  refine ⟨fun i m σ H => ∃ F2 ρ2, i + m = ds.length ∧ Wd B F2 H ∧ Ext F1 F2 ∧ RSt B F2 ρ2 σ H ∧ dWalk g t K (ds.drop i) ρ2, ⟨ds.length, F1, ρ1, by omega, w1, Ext.refl F1, r1, q1⟩, ?_⟩
  rintro i m σ2 H2 ⟨F2, ρ2, hm, w2, x2, r2, q2⟩
  by_cases hi : i < ds.length
  · refine .inr ⟨io.go B F2 H2 i w2 x2 hi, fun σ H => ∃ F3 ρ3, Wd B F3 H ∧ Ext F1 F3 ∧ RSt B F3 ρ3 σ H ∧ dWalk g t K (ds.drop (i + 1)) ρ3, fun σ' H' ⟨F3, ρ3, w3, x3, r3, q3⟩ => ⟨m - 1, by omega, F3, ρ3, by omega, w3, x3, r3, q3⟩, fun x H' y => ?_⟩
    obtain ⟨F3, d, s3, hd, hr⟩ := io.yld B F2 H2 i x H' w2 x2 hi y
    have hde : ds.drop i = d :: ds.drop (i + 1) := by
      rw [List.drop_eq_getElem_cons hi]
      rw [List.getElem?_eq_getElem hi] at hd
      cases hd
      rfl
    rw [hde, dWalk_cons] at q2
    have x13 := x2.trans s3.ext
    refine ⟨B, F3, ρ2, d, _, s3.wd, s3.st _ _ r2, hr, q2, fun F4 H4 σ4 ρ4 w4 x4 r4 q4 _ => ?_⟩
    have k4 := k.mono (x1.trans (x13.trans x4))
    exact ⟨B, F4, ρ4, _, w4, r4, q4, ⟨fun F5 H5 σ5 ρ5 w5 x5 r5 q5 => ⟨F5, ρ5, w5, x13.trans (x4.trans x5), r5, q5⟩, k4.nx, fun F5 H5 σ5 ρ5 w5 x5 r5 q5 => ⟨F5, ρ5, w5, x13.trans (x4.trans x5), r5, q5⟩, k4.rt⟩⟩
  · have e0 : i = ds.length := by omega
    subst e0
    rw [List.drop_length, dWalk_nil] at q2
    exact .inl ⟨io.stop B F2 H2 w2 x2, k.nx F2 H2 σ2 ρ2 w2 (x1.trans x2) r2 q2⟩
theorem dWalk_ind {g : AG} {t : ASt} {K : DEnds} (I : List DV → DSt → Prop) {ds : List DV} {ρ : DSt} (h0 : I ds ρ) (hn : ∀ ρ, I [] ρ → K.nx ρ)
    (hc : ∀ (d : DV) (r : List DV) (ρ : DSt) (W : DSt → Prop), (∀ ρ', I r ρ' → W ρ') → I (d :: r) ρ → g d ρ fun ρ1 => t { nx := W, rt := K.rt, bk := K.nx, ct := W } ρ1) : dWalk g t K ds ρ := by
  induction ds generalizing ρ with
  | nil => rw [dWalk_nil]; exact hn ρ h0
  | cons d r ih => rw [dWalk_cons]; exact hc d r ρ _ (fun ρ' h => ih h) h0
/-- while -/
def dWhile (c : AT) (t : ASt) : ASt := fun K ρ => ∃ W : Nat → DSt → Prop, (∃ m, W m ρ) ∧ ∀ m ρ, W m ρ →
  c ρ fun b ρ1 => if b = true then t { nx := fun ρ2 => ∃ m', m' < m ∧ W m' ρ2, rt := K.rt, bk := K.nx, ct := fun ρ2 => ∃ m', m' < m ∧ W m' ρ2 } ρ1 else K.nx ρ1
theorem ds_while {body : List Stmt} {c : AT} {t : ASt} (hc : DT X e c) (hb : DSs X body t) (hp : PassesOwn (model X.prog X.w) X.A X.env X.xe := by exact PassesOwn.never) : DS X (.While e body [] pos) (dWhile c t) := by
  refine ⟨ps_imp (ps_while hp hc.pt hb.ps) fun D σ H h => ?_⟩
  obtain ⟨B, F, ρ, K, w, r, ⟨W, ⟨m0, q0⟩, q⟩, k⟩ := h
  refine ⟨fun m σ H => ∃ F2 ρ2, Wd B F2 H ∧ Ext F F2 ∧ RSt B F2 ρ2 σ H ∧ W m ρ2, ⟨m0, F, ρ, w, Ext.refl F, r, q0⟩, ?_⟩
  rintro m σ2 H2 ⟨F2, ρ2, w2, x2, r2, q2⟩
  refine ⟨B, F2, ρ2, _, w2, r2, q m ρ2 q2, fun F3 H3 ρ3 b w3 x3 r3 q3 => ?_⟩
  cases b with
  | true =>
    rw [if_pos rfl] at q3 ⊢
    have k4 := k.mono (x2.trans x3)
    refine ⟨fun σ H => ∃ m', m' < m ∧ ∃ F2 ρ2, Wd B F2 H ∧ Ext F F2 ∧ RSt B F2 ρ2 σ H ∧ W m' ρ2, fun σ' H' z => z, ?_⟩
    refine ⟨B, F3, ρ3, _, w3, r3, q3, ⟨fun F5 H5 σ5 ρ5 w5 x5 r5 ⟨m', hm, q5⟩ => ⟨m', hm, F5, ρ5, w5, x2.trans (x3.trans x5), r5, q5⟩, k4.nx, fun F5 H5 σ5 ρ5 w5 x5 r5 ⟨m', hm, q5⟩ => ⟨m', hm, F5, ρ5, w5, x2.trans (x3.trans x5), r5, q5⟩, k4.rt⟩⟩
  | false =>
    rw [if_neg Bool.false_ne_true] at q3 ⊢
    exact k.nx F3 H3 σ2 ρ3 w3 (x2.trans x3) r3 q3

/-! ### comprehensions -/
def wipeD (ρ : DSt) : List Nat → DSt
  | [] => ρ
  | v :: vs => (wipeD ρ vs).set v none
def keepV : Option (Option Lv) → Option Lv
  | some (some (.val d)) => some (.val d)
  | _ => none
def merge (ρ1 ρ2 : DSt) : List Nat → DSt
  | [] => ρ2
  | v :: vs => (merge ρ1 ρ2 vs).set v (keepV ρ1[v]?)
theorem wipe_out {σ : St} {i : Nat} : ∀ {vs : List Nat}, i ∉ vs → (wipe σ vs)[i]? = σ[i]?
  | [], _ => rfl
  | v :: vs, h => by
    rw [List.mem_cons, not_or] at h
    show ((wipe σ vs).set v none)[i]? = _
    rw [List.getElem?_set_ne (Ne.symm h.1), wipe_out h.2]
theorem wipe_in {σ : St} {i : Nat} : ∀ {vs : List Nat}, i ∈ vs → i < σ.length → (wipe σ vs)[i]? = some none
  | [], h, _ => by cases h
  | v :: vs, h, hl => by
    show ((wipe σ vs).set v none)[i]? = _
    by_cases c : v = i
    · subst c; rw [List.getElem?_set_self (by rw [wipe_length]; exact hl)]
    · rw [List.getElem?_set_ne c]
      rcases List.mem_cons.mp h with e | e
      · exact absurd e.symm c
      · exact wipe_in e hl
theorem wipe_ext {σ σ' : St} {js vs : List Nat} (h : Butt js (wipe σ vs) σ') (hj : ∀ j ∈ js, j ∈ vs) : wipe σ' vs = wipe σ vs := by
  have hl : σ'.length = σ.length := by rw [h.1, wipe_length]
  refine List.ext_getElem? fun i => ?_
  by_cases c : i ∈ vs
  · by_cases hi : i < σ.length
    · rw [wipe_in c hi, wipe_in c (by omega)]
    · rw [List.getElem?_eq_none (by rw [wipe_length]; omega), List.getElem?_eq_none (by rw [wipe_length]; omega)]
  · rw [wipe_out c, h.2 i (fun z => c (hj i z))]
theorem wipeD_len (ρ : DSt) : ∀ vs : List Nat, (wipeD ρ vs).length = ρ.length
  | [] => rfl
  | v :: vs => by show ((wipeD ρ vs).set v none).length = _; rw [List.length_set, wipeD_len ρ vs]
theorem wipeD_some {ρ : DSt} {i : Nat} {x : Lv} : ∀ {vs : List Nat}, (wipeD ρ vs)[i]? = some (some x) → ρ[i]? = some (some x) ∧ i ∉ vs
  | [], h => ⟨h, by simp⟩
  | v :: vs, h => by
    have h : ((wipeD ρ vs).set v none)[i]? = some (some x) := h
    by_cases c : v = i
    · subst c
      by_cases hv : v < (wipeD ρ vs).length
      · rw [List.getElem?_set_self hv] at h; cases h
      · rw [List.getElem?_eq_none (by rw [List.length_set]; omega)] at h; cases h
    · rw [List.getElem?_set_ne c] at h
      obtain ⟨h1, h2⟩ := wipeD_some h
      exact ⟨h1, by rw [List.mem_cons, not_or]; exact ⟨fun e => c e.symm, h2⟩⟩
theorem RSt.wipe {B : Bs} {F : Wo} {ρ : DSt} {σ : St} {H : Hp} (r : RSt B F ρ σ H) (vs : List Nat) : RSt B F (wipeD ρ vs) (L2.wipe σ vs) H := by
  refine ⟨fun i d e => ?_, fun i d e => ?_, fun i j d e p hij h1 h2 h3 => ?_, by rw [wipeD_len, wipe_length]; exact r.len⟩
  · obtain ⟨h, n⟩ := wipeD_some e
    rw [wipe_out n]; exact r.val i d h
  · obtain ⟨h, n⟩ := wipeD_some e
    rw [wipe_out n]; exact r.own i d h
  · obtain ⟨k1, n1⟩ := wipeD_some h1
    obtain ⟨k2, n2⟩ := wipeD_some h2
    rw [wipe_out n1] at h3
    rw [wipe_out n2]
    exact r.dis i j d e p hij k1 k2 h3
theorem merge_len (ρ1 ρ2 : DSt) : ∀ vs : List Nat, (merge ρ1 ρ2 vs).length = ρ2.length
  | [] => rfl
  | v :: vs => by show ((merge ρ1 ρ2 vs).set v _).length = _; rw [List.length_set, merge_len ρ1 ρ2 vs]
theorem merge_some {ρ1 ρ2 : DSt} {i : Nat} {x : Lv} : ∀ {vs : List Nat}, (merge ρ1 ρ2 vs)[i]? = some (some x) → (i ∉ vs ∧ ρ2[i]? = some (some x)) ∨ ∃ d, x = .val d ∧ ρ1[i]? = some (some (Lv.val d))
  | [], h => .inl ⟨by simp, h⟩
  | v :: vs, h => by
    have h : ((merge ρ1 ρ2 vs).set v (keepV ρ1[v]?))[i]? = some (some x) := h
    by_cases c : v = i
    · subst c
      by_cases hv : v < (merge ρ1 ρ2 vs).length
      · rw [List.getElem?_set_self hv] at h
        refine .inr ?_
        cases e : ρ1[v]? with
        | none => rw [e] at h; cases h
        | some o =>
          cases o with
          | none => rw [e] at h; cases h
          | some l =>
            cases l with
            | val d => rw [e] at h; cases h; exact ⟨d, rfl, rfl⟩
            | own d => rw [e] at h; cases h
      · rw [List.getElem?_eq_none (by rw [List.length_set]; omega)] at h; cases h
    · rw [List.getElem?_set_ne c] at h
      rcases merge_some h with ⟨n, h⟩ | h
      · exact .inl ⟨by rw [List.mem_cons, not_or]; exact ⟨fun e => c e.symm, n⟩, h⟩
      · exact .inr h
theorem RSt.merge {B B' : Bs} {F F' : Wo} {ρ ρ' : DSt} {σ : St} {H H' : Hp} {vs : List Nat} (r : RSt B F ρ σ H) (x : Ext F F') (r' : RSt B' F' ρ' (L2.wipe σ vs) H') : RSt B' F' (DL.merge ρ ρ' vs) σ H' := by
  have hl : ρ'.length = σ.length := by rw [r'.len, wipe_length]
  refine ⟨fun i d e => ?_, fun i d e => ?_, fun i j d e p hij h1 h2 h3 => ?_, by rw [merge_len]; exact hl⟩
  · rcases merge_some e with ⟨n, h⟩ | ⟨d', h, h'⟩
    · obtain ⟨v, hv, hr⟩ := r'.val i d h
      exact ⟨v, by rw [← wipe_out n]; exact hv, hr⟩
    · cases h
      obtain ⟨v, hv, hr⟩ := r.val i d h'
      exact ⟨v, hv, hr.mono x⟩
  · rcases merge_some e with ⟨n, h⟩ | ⟨d', h, h'⟩
    · obtain ⟨v, hv, hr⟩ := r'.own i d h
      exact ⟨v, by rw [← wipe_out n]; exact hv, hr⟩
    · cases h
  · rcases merge_some h1 with ⟨n1, k1⟩ | ⟨d', h, h'⟩
    · rcases merge_some h2 with ⟨n2, k2⟩ | ⟨d', h, h'⟩
      · rw [← wipe_out n1] at h3
        rw [← wipe_out n2]
        exact r'.dis i j d e p hij k1 k2 h3
      · cases h
    · cases h
/-- a comprehension's turns -/
def dLcW0 (g : AG) (tt : AT) (te : AE) (vs : List Nat) (fin : List DV → DSt → Prop) : List DV → List DV → DSt → Prop
  | [], acc, ρ => fin acc ρ
  | d :: ds, acc, ρ => g d ρ fun ρ2 => tt ρ2 fun b ρ3 => if b = true then te ρ3 fun y ρ4 => dLcW0 g tt te vs fin ds (acc ++ [y]) (wipeD ρ4 vs) else dLcW0 g tt te vs fin ds acc (wipeD ρ3 vs)
@[irreducible] def dLcW (g : AG) (tt : AT) (te : AE) (vs : List Nat) (fin : List DV → DSt → Prop) (ds acc : List DV) (ρ : DSt) : Prop := dLcW0 g tt te vs fin ds acc ρ
theorem dLcW_nil {g : AG} {tt : AT} {te : AE} {vs : List Nat} {fin : List DV → DSt → Prop} {acc : List DV} {ρ : DSt} : dLcW g tt te vs fin [] acc ρ = fin acc ρ := by unfold dLcW; rfl
theorem dLcW_cons {g : AG} {tt : AT} {te : AE} {vs : List Nat} {fin : List DV → DSt → Prop} {acc ds : List DV} {d : DV} {ρ : DSt} : dLcW g tt te vs fin (d :: ds) acc ρ =
    g d ρ fun ρ2 => tt ρ2 fun b ρ3 => if b = true then te ρ3 fun y ρ4 => dLcW g tt te vs fin ds (acc ++ [y]) (wipeD ρ4 vs) else dLcW g tt te vs fin ds acc (wipeD ρ3 vs) := by unfold dLcW; rfl
theorem dLcW_ind {g : AG} {tt : AT} {te : AE} {vs : List Nat} {fin : List DV → DSt → Prop} (I : List DV → List DV → DSt → Prop) {ds acc : List DV} {ρ : DSt} (h0 : I ds acc ρ) (hn : ∀ acc ρ, I [] acc ρ → fin acc ρ)
    (hc : ∀ (d : DV) (r acc : List DV) (ρ : DSt) (W : List DV → DSt → Prop), (∀ acc' ρ', I r acc' ρ' → W acc' ρ') → I (d :: r) acc ρ →
      g d ρ fun ρ2 => tt ρ2 fun b ρ3 => if b = true then te ρ3 fun y ρ4 => W (acc ++ [y]) (wipeD ρ4 vs) else W acc (wipeD ρ3 vs)) : dLcW g tt te vs fin ds acc ρ := by
  induction ds generalizing acc ρ with
  | nil => rw [dLcW_nil]; exact hn acc ρ h0
  | cons d r ih => rw [dLcW_cons]; exact hc d r acc ρ (fun acc' ρ' => dLcW g tt te vs fin r acc' ρ') (fun acc' ρ' h => ih h) h0
/-- a comprehension that keeps all and leaves the slots -/
theorem dLcW_map {g : AG} {te : AE} {vs : List Nat} {fin : List DV → DSt → Prop} {ρ : DSt} (f : DV → DV) {ds : List DV} (hr : wipeD ρ vs = ρ)
    (hs : ∀ d ∈ ds, ∀ Q : DV → DSt → Prop, (∀ ρ', wipeD ρ' vs = ρ → Q (f d) ρ') → g d ρ fun ρ2 => te ρ2 Q) (hf : fin (ds.map f) ρ) : dLcW g (fun ρ Q => Q true ρ) te vs fin ds [] ρ := by
  have key : ∀ (es acc : List DV), (∀ d ∈ es, d ∈ ds) → fin (acc ++ es.map f) ρ → dLcW g (fun ρ Q => Q true ρ) te vs fin es acc ρ := by
    intro es
    induction es with
    | nil => intro acc _ h; rw [dLcW_nil]; simpa using h
    | cons d r ih =>
      intro acc hm h
      rw [dLcW_cons]
      refine hs d (hm d (by simp)) (fun y ρ4 => dLcW g (fun ρ Q => Q true ρ) te vs fin r (acc ++ [y]) (wipeD ρ4 vs)) fun ρ' e => ?_
      show dLcW g (fun ρ Q => Q true ρ) te vs fin r (acc ++ [f d]) (wipeD ρ' vs)
      rw [e]
      exact ih _ (fun x hx => hm x (by simp [hx])) (by simpa using h)
  exact key ds [] (fun _ h => h) (by simpa using hf)
def dLc (ai : AI) (g : AG) (tt : AT) (te : AE) (vs : List Nat) : AE := fun ρ Q => ai ρ fun ds ρ1 => ds.length ≤ sizeLine ∧ dLcW g tt te vs (fun acc ρ2 => Q (.lst acc) (merge ρ1 ρ2 vs)) ds [] (wipeD ρ1 vs)
theorem lift_lc {ai : AI} {js vs : List Nat} {g : AG} {tt : AT} {te : AE} {σ : St} {H : Hp} {Q : VK} (hj : ∀ j ∈ js, j ∈ vs) (h : tD (dLc ai g tt te vs) σ H Q) : tLc (tDI ai) (tDG js g) (tDT tt) (tD te) vs σ H Q := by
  obtain ⟨B, F, ρ, Q', w, r, q, k⟩ := h
  refine ⟨B, F, ρ, _, w, r, q, fun F1 H1 ρ1 ds J w1 x1 r1 io q1 D hD => ?_⟩
  obtain ⟨hz, q1⟩ := q1
  obtain ⟨wl, rl⟩ := w1.loosen (o := .lst []) hD
  refine ⟨fun i m H2 => ∃ F2 ρ2 acc av, i + m = ds.length ∧ Wd (B.loose D (.lst av)) F2 H2 ∧ Ext F1 F2 ∧ RSt (B.loose D (.lst av)) F2 ρ2 (wipe σ vs) H2 ∧ Reps F2 acc av ∧ acc.length ≤ i ∧
    dLcW g tt te vs (fun acc ρ2 => Q' (.lst acc) (merge ρ1 ρ2 vs)) (ds.drop i) acc ρ2, ⟨ds.length, F1, wipeD ρ1 vs, [], [], by omega, wl, Ext.refl F1, (rl _ _ r1).wipe vs, Reps.nil, Nat.le_refl 0, q1⟩, ?_⟩
  rintro i m H2 ⟨F2, ρ2, acc, av, hm, w2, x2, r2, ha, hal, q2⟩
  by_cases hi : i < ds.length
  · refine .inr ⟨io.go _ F2 H2 i w2 x2 hi, fun H' => ∃ F3 ρ3 acc av, Wd (B.loose D (.lst av)) F3 H' ∧ Ext F1 F3 ∧ RSt (B.loose D (.lst av)) F3 ρ3 (wipe σ vs) H' ∧ Reps F3 acc av ∧ acc.length ≤ i + 1 ∧
      dLcW g tt te vs (fun acc ρ2 => Q' (.lst acc) (merge ρ1 ρ2 vs)) (ds.drop (i + 1)) acc ρ3, fun H' ⟨F3, ρ3, acc, av, z⟩ => ⟨m - 1, by omega, F3, ρ3, acc, av, by omega, z⟩, fun x H' y => ?_⟩
    obtain ⟨F3, d, s3, hd, hr⟩ := io.yld _ F2 H2 i x H' w2 x2 hi y
    have hde : ds.drop i = d :: ds.drop (i + 1) := by
      rw [List.drop_eq_getElem_cons hi]
      rw [List.getElem?_eq_getElem hi] at hd
      cases hd
      rfl
    rw [hde, dLcW_cons] at q2
    have x13 := x2.trans s3.ext
    refine ⟨_, F3, ρ2, d, _, s3.wd, s3.st _ _ r2, hr, q2, fun F4 H4 σ4 ρ4 w4 x4 r4 q4 b4 => ⟨wipe_ext b4 hj, ?_⟩⟩
    have ew := wipe_ext b4 hj
    refine ⟨_, F4, ρ4, _, w4, r4, q4, fun F5 H5 ρ5 b w5 x5 r5 q5 => ?_⟩
    cases b with
    | true =>
      rw [if_pos rfl] at q5 ⊢
      refine ⟨_, F5, ρ5, _, w5, r5, q5, fun F6 H6 ρ6 y vy w6 x6 r6 hy q6 => ?_⟩
      obtain ⟨w7, r7⟩ := w6.reloose (u := .lst (av ++ [vy]))
      refine ⟨av, (w6.lo D _ (if_pos rfl)).1, by rw [← ha.length]; omega, F6, _, acc ++ [y], av ++ [vy], w7, x13.trans (x4.trans (x5.trans x6)), ?_, (ha.mono (s3.ext.trans (x4.trans (x5.trans x6)))).append (Reps.cons hy Reps.nil), by simp; omega, q6⟩
      have := (r7 _ _ r6).wipe vs
      rw [ew] at this
      exact this
    | false =>
      rw [if_neg Bool.false_ne_true] at q5 ⊢
      have := r5.wipe vs
      rw [ew] at this
      exact ⟨F5, _, acc, av, w5, x13.trans (x4.trans x5), this, ha.mono (s3.ext.trans (x4.trans x5)), by omega, q5⟩
  · have e0 : i = ds.length := by omega
    subst e0
    rw [List.drop_length, dLcW_nil] at q2
    obtain ⟨w7, x7, r7⟩ := w2.fix (w1.nl hD)
    exact .inl ⟨io.stop _ F2 H2 w2 x2, k _ _ _ _ _ w7 (x1.trans (x2.trans x7)) (r1.merge (x2.trans x7) (r7 _ _ r2)) (rep_lst.mpr ⟨D, av, rfl, Wo.add_same, ha.mono x7⟩) q2⟩
abbrev dYes : AT := fun ρ Q => Q true ρ
structure DTs (X : Cx) (ifs : List Expr) (a : AT) : Prop where
  pt : PTs X ifs (tDT a)
theorem dts_nil : DTs X [] dYes := ⟨⟨fun pins s σ H Q I ⟨B, F, ρ, Q', w, r, a, k⟩ => pts_nil.run pins s σ H Q I (k F H ρ _ w (Ext.refl F) r a)⟩⟩
theorem dts_one {c : AT} (h : DT X e c) : DTs X [e] c := ⟨pts_one h.pt⟩
theorem de_lc {elt iter : Expr} {ifs : List Expr} {scope : Scope} {own : List (Str × Nat)} {ai : AI} {js : List Nat} {g : AG} {tt : AT} {te : AE} (hc : X.calm = true) (hN : X.N.Nodup) (hi : DI X tg iter ai) (ok : BlkOk X.N X.env.scope scope own)
    (hg : ∀ (s : Shared) (H : Hp) (C : Addr) (cl : List (Str × Addr)) (fp : List Addr), DG (X.blk s H scope (compEnvC scope cl C X.env) fp) js tg g) (ht : ∀ (s : Shared) (H : Hp) (C : Addr) (cl : List (Str × Addr)) (fp : List Addr), DTs (X.blk s H scope (compEnvC scope cl C X.env) fp) ifs tt)
    (he : ∀ (s : Shared) (H : Hp) (C : Addr) (cl : List (Str × Addr)) (fp : List Addr), DE (X.blk s H scope (compEnvC scope cl C X.env) fp) elt te) (hj : ∀ j ∈ js, j ∈ own.map (·.2) := by decide) (hs : ∀ x, foldedSetIterable iter X.env x = pure x := by intro _; rfl) :
    DE X (.ListComp elt [⟨tg, iter, ifs, 0⟩] scope pos) (dLc ai g tt te (own.map (·.2))) :=
  ⟨pe_imp (pe_lc hc hN hi.pi ok (fun s H C cl fp => (hg s H C cl fp).pg) (fun s H C cl fp => (ht s H C cl fp).pt) (fun s H C cl fp => (he s H C cl fp).pe) hs) fun _ _ _ h => lift_lc hj h⟩
theorem ds_setLc {i : Nat} {y : Str} {py spos : Pos} {elt iter : Expr} {ifs : List Expr} {scope : Scope} {own : List (Str × Nat)} {ai : AI} {js : List Nat} {g : AG} {tt : AT} {te : AE} (hc : X.calm = true) (hN : X.N.Nodup) (hy : X.N[i]? = some y) (hyl : X.env.scope.names.lookup y = some .local)
    (hsw : swapsWith (.ListComp elt [⟨tg, iter, ifs, 0⟩] scope pos) (some (.Name y py)) spos.line X.env = pure true) (hi : DI X tg iter ai) (ok : BlkOk X.N X.env.scope scope own)
    (hg : ∀ (s : Shared) (H : Hp) (C : Addr) (cl : List (Str × Addr)) (fp : List Addr), DG (X.blk s H scope (compEnvC scope cl C X.env) fp) js tg g) (ht : ∀ (s : Shared) (H : Hp) (C : Addr) (cl : List (Str × Addr)) (fp : List Addr), DTs (X.blk s H scope (compEnvC scope cl C X.env) fp) ifs tt)
    (he : ∀ (s : Shared) (H : Hp) (C : Addr) (cl : List (Str × Addr)) (fp : List Addr), DE (X.blk s H scope (compEnvC scope cl C X.env) fp) elt te) (hj : ∀ j ∈ js, j ∈ own.map (·.2) := by decide) (hs : ∀ x, foldedSetIterable iter X.env x = pure x := by intro _; rfl) :
    DS X (.Assign [.Name y py] (.ListComp elt [⟨tg, iter, ifs, 0⟩] scope pos) spos) (dAsg (dLc ai g tt te (own.map (·.2))) (gN i)) := by
  refine ⟨ps_imp (ps_setLc hc hN hy hyl hsw hi.pi ok (fun s H C cl fp => (hg s H C cl fp).pg) (fun s H C cl fp => (ht s H C cl fp).pt) (fun s H C cl fp => (he s H C cl fp).pe) hs) fun D σ H h => ?_⟩
  obtain ⟨B, F, ρ, K, w, r, q, k⟩ := h
  exact lift_lc hj ⟨B, F, ρ, _, w, r, q, fun F' H' ρ' d v w' x' r' hr q' => k.nx F' H' _ _ w' x' (r'.put' i hr) q'⟩
end

/-! ### defs -/
abbrev ED := Addr → List Str → List DV → Prop
abbrev noE : ED := fun _ _ _ => False
abbrev DSp := List DV → (DV → Prop) → ED → Prop
abbrev b0 (F : Wo) (H : Hp) : Bs := ⟨F, H, fun _ => none⟩
def XOk (F : Wo) (H : Hp) (E' : ED) (E : XK) : Prop := ∀ F' H' C dd fs ds, Wd (b0 F H) F' H' → F'.fz dd = some (.xd fs) → Reps F' ds (fs.map (·.2)) → E' C (fs.map (·.1)) ds → E (.ref C) (some dd) H'
/-- a promise about data as one about the heap -/
def spD (sp : DSp) : Sp := fun vs H Q E => ∃ F ds Q' E', Wd (b0 F H) F H ∧ Reps F ds vs ∧ sp ds Q' E' ∧ (∀ F' H' d v, Wd (b0 F H) F' H' → Rep F' d v → Q' d → Q v H') ∧ XOk F H E' E
def startD (n : Nat) (ds : List DV) : DSt := ds.map (fun d => some (Lv.val d)) ++ List.replicate (n - ds.length) none
theorem start_rst {F : Wo} {H : Hp} {N : List Str} {ds : List DV} {vs : List V} (h : Reps F ds vs) : RSt (b0 F H) F (startD N.length ds) (L2.start N vs) H := by
  have hl := h.length
  have key : ∀ {i : Nat} {l : Lv}, (startD N.length ds)[i]? = some (some l) → ∃ d, l = .val d ∧ ds[i]? = some d := fun {i l} e => by
    unfold startD at e
    by_cases hi : i < ds.length
    · rw [List.getElem?_append_left (by simpa using hi), List.getElem?_map] at e
      cases z : ds[i]? with
      | none => rw [z] at e; cases e
      | some d => rw [z] at e; cases e; exact ⟨d, rfl, rfl⟩
    · rw [List.getElem?_append_right (by simpa using hi), List.getElem?_replicate] at e
      split at e <;> cases e
  refine ⟨fun i d e => ?_, fun i d e => ?_, fun i j d e p _ h1 => ?_, ?_⟩
  · obtain ⟨d', e1, e2⟩ := key e
    cases e1
    obtain ⟨v, hv, hr⟩ := h.get e2
    refine ⟨v, ?_, hr⟩
    unfold L2.start
    rw [List.getElem?_append_left (by simpa using (List.getElem?_eq_some_iff.mp hv).1), List.getElem?_map, hv]
    rfl
  · obtain ⟨d', e1, e2⟩ := key e
    cases e1
  · obtain ⟨d', e1, e2⟩ := key h1
    cases e1
  · unfold startD L2.start
    simp only [List.length_append, List.length_map, List.length_replicate]
    omega
section
variable {P : Program} {w : World} {K : PySem.W.Frag} {mg : Str → Option Value} {base : Heap}
/-- a def that nothing leaves: its body, and the reading of it -/
theorem dfn_ok {x qual : Str} {st : Stmt} {f : Addr} {fd : FuncData} {N ps : List Str} {k : Nat} {sp : DSp} (Fn : Fun K x qual st f fd) (S : FnScope N ps (defScope st)) (len : ∀ ds Q E, sp ds Q E → ds.length = ps.length) {a : ASt}
    (hbody : ∀ (cdv : Value) (A : Around) (outer : List Env) (s : Shared) (H : Hp) (E : XK), Room k (A.deeper (PyProof.Rows.envOfC qual (defScope st) s.heap.objs.size f cdv)) →
      DSs (cxOf CX0 P w K mg base N qual (defScope st) f cdv A outer s H E).nox (defBody st) a)
    (hsp : ∀ ds Q E, sp ds Q E → a { nx := fun _ => Q .non, rt := fun d _ => Q d } (startD N.length ds)) : FnOk P w K mg base CX0 (k + 1) f fd ps (spD sp) := by
  refine Fn.ok S (fun vs H Q E ⟨F, ds, Q', E', _, hr, hs, _⟩ => by rw [← hr.length]; exact len _ _ _ hs) fun cdv A outer s H vs Q E hroom h => ?_
  obtain ⟨F, ds, Q', E', w0, hr, hs, hq, hx⟩ := h
  refine ⟨_, (hbody cdv A outer s H E hroom).ps, b0 F H, F, startD N.length ds, _, w0, start_rst hr, hsp ds Q' E' hs, ⟨?_, ?_, ?_, ?_⟩⟩
  · exact fun F' H' σ' ρ' w' _ _ q' => hq F' H' .non .non w' (rep_non.mpr rfl) q'
  · exact fun _ _ _ _ _ _ _ q' => False.elim q'
  · exact fun _ _ _ _ _ _ _ q' => False.elim q'
  · exact fun F' H' _ _ d v w' _ _ hd q' => hq F' H' d v w' hd q'
end
section
variable {X : Cx} {x : Str} {p pos : Pos} {e : Expr} {es : List Expr} {t : AA} {k : Nat} {f : Addr} {fd : FuncData} {ps : List Str} {ds : List Value} {dvs : List V} {sp : DSp}
def dCall (sp : DSp) (E : ED) (dd : List DV) (t : AA) : AE := fun ρ Q => t ρ fun ds ρ1 => sp (ds ++ dd) (fun d => Q d ρ1) E
theorem Wd.again {B : Bs} {F : Wo} {H : Hp} (w : Wd B F H) : Wd (b0 F H) F H := Wd.start F H w.fz w.ce w.dj
theorem liftCall {dd : List DV} {E' : ED} {E : XK} (hdd : ∀ F, Reps F dd dvs) (hx : ∀ F H, XOk F H E' E) {σ : St} {H : Hp} {Q : VK} (h : tD (dCall sp E' dd t) σ H Q) : tCall (spD sp) dvs E (tDA t) σ H Q := by
  obtain ⟨B, F, ρ, Q', w, r, q, k⟩ := h
  refine ⟨B, F, ρ, _, w, r, q, fun F1 H1 ρ1 ds vs w1 x1 r1 hs q1 => ?_⟩
  refine ⟨F1, ds ++ dd, _, E', w1.again, hs.append (hdd F1), q1, fun F2 H2 d v w2 hr q2 => ?_, hx F1 H1⟩
  have s := w1.call w2
  exact k F2 H2 ρ1 d v s.wd (x1.trans s.ext) (s.st _ _ r1) hr q2
theorem de_call {dd : List DV} (G : FnOk X.prog X.w X.K X.mg X.base CX0 k f fd ps (spD sp)) (hr : Room k X.A) (hg : Gl X x) (hm : X.mg x = some (.ref f)) (hk : PySem.W.keepIn X.K (.ref f) = true) (hb : Binds X.K fd ps ds) (hd : Vals dvs ds) (hdd : ∀ F, Reps F dd dvs)
    (ha : DA X (e :: es) t) (hdb : (x == ("__debug__" : Str)) = false := by decide) (he : starEach (e :: es) X.env = (false, eval e X.env) :: starEach es X.env := by rfl) (hpl : (backTo pos (starEach es X.env)).any (·.1) = false := by rfl) :
    DE X (.Call (.Name x p) (e :: es) [] pos) (dCall sp noE dd t) :=
  ⟨pe_imp (pe_call G hr hg hm hk hb hd pass0 ha.pa hdb he hpl) fun _ _ _ h => liftCall hdd (fun _ _ _ _ _ _ _ _ _ _ _ z => z) h⟩
end
end DL

/-! The data layer, part F: built-in functions and methods. -/
namespace DL
open PySem L2

section
variable {X : Cx}
/-! ### len -/
def fLen (ds : List DV) (Q : DV → Prop) : Prop := match ds with
  | [.str z] => z.length ≤ sizeLine ∧ Q (.int z.length)
  | [.lst xs] => Q (.int xs.length)
  | [.lsa _ xs] => Q (.int xs.length)
  | [.tup xs] => Q (.int xs.length)
  | _ => False
theorem cd_len {K : PySem.W.Frag} : ClD (fun xs H Q => ∃ x n, xs = [x] ∧ LenV K x H n ∧ Q (.int n) H) fLen := by
  intro B F H xs ds Q Q' w hs h k
  match ds, h with
  | [.str z], h =>
    obtain ⟨v, r, rfl, hv, hr⟩ := reps_cons.mp hs
    rw [reps_nil.mp hr, rep_str.mp hv]
    exact ⟨_, _, rfl, ⟨h.1, rfl⟩, k F H _ _ (Stp.refl w) (rep_int.mpr rfl) h.2⟩
  | [.lst es], h =>
    obtain ⟨v, r, rfl, hv, hr⟩ := reps_cons.mp hs
    obtain ⟨p, vs, rfl, f, q⟩ := rep_lst.mp hv
    rw [reps_nil.mp hr]
    exact ⟨_, _, rfl, .inl ⟨vs, SqL.of (w.sqL (K := K) f), rfl⟩, k F H _ _ (Stp.refl w) (rep_int.mpr (by rw [q.length])) h⟩
  | [.lsa a es], h =>
    obtain ⟨v, r, rfl, hv, hr⟩ := reps_cons.mp hs
    obtain ⟨rfl, vs, f, q⟩ := rep_lsa.mp hv
    rw [reps_nil.mp hr]
    exact ⟨_, _, rfl, .inl ⟨vs, SqL.of (w.sqL (K := K) f), rfl⟩, k F H _ _ (Stp.refl w) (rep_int.mpr (by rw [q.length])) h⟩
  | [.tup es], h =>
    obtain ⟨v, r, rfl, hv, hr⟩ := reps_cons.mp hs
    obtain ⟨p, vs, rfl, f, q⟩ := rep_tup.mp hv
    rw [reps_nil.mp hr]
    exact ⟨_, _, rfl, .inr ⟨vs, SqT.of (w.sqT (K := K) f), rfl⟩, k F H _ _ (Stp.refl w) (rep_int.mpr (by rw [q.length])) h⟩

/-! ### all, any -/
def boolsD : List DV → Option (List Bool)
  | [] => some []
  | .bl b :: ds => (boolsD ds).map (b :: ·)
  | _ :: _ => none
theorem reps_bools {F : Wo} : ∀ {ds : List DV} {vs : List V} {bs : List Bool}, Reps F ds vs → boolsD ds = some bs → vs = bs.map V.bl
  | [], _, _, h, e => by rw [reps_nil.mp h]; cases e; rfl
  | d :: ds, _, _, h, e => by
    obtain ⟨v, r, rfl, hv, hr⟩ := reps_cons.mp h
    cases d <;> simp only [boolsD, Option.map_eq_some_iff, reduceCtorEq] at e
    obtain ⟨bs, e, rfl⟩ := e
    rw [rep_bl.mp hv, reps_bools hr e]
    rfl
theorem boolsD_map {α : Type} (f : α → Bool) : ∀ l : List α, boolsD (l.map fun x => .bl (f x)) = some (l.map f)
  | [] => rfl
  | x :: l => by simp [boolsD, boolsD_map f l]
def fAll (ds : List DV) (Q : DV → Prop) : Prop := match ds with
  | [.lst xs] => ∃ bs, boolsD xs = some bs ∧ Q (.bl (bs.all id))
  | _ => False
def fAny (ds : List DV) (Q : DV → Prop) : Prop := match ds with
  | [.lst xs] => ∃ bs, boolsD xs = some bs ∧ Q (.bl (bs.any id))
  | _ => False
theorem cd_all {K : PySem.W.Frag} : ClD (rAll K) fAll := by
  intro B F H xs ds Q Q' w hs h k
  match ds, h with
  | [.lst es], h =>
    obtain ⟨bs, e, h⟩ := h
    obtain ⟨v, r, rfl, hv, hr⟩ := reps_cons.mp hs
    obtain ⟨p, vs, rfl, f, q⟩ := rep_lst.mp hv
    rw [reps_nil.mp hr]
    rw [reps_bools q e] at f
    exact ⟨p, bs, rfl, SqL.of (w.sqL (K := K) f), k F H _ _ (Stp.refl w) (rep_bl.mpr rfl) h⟩
theorem cd_any {K : PySem.W.Frag} : ClD (rAny K) fAny := by
  intro B F H xs ds Q Q' w hs h k
  match ds, h with
  | [.lst es], h =>
    obtain ⟨bs, e, h⟩ := h
    obtain ⟨v, r, rfl, hv, hr⟩ := reps_cons.mp hs
    obtain ⟨p, vs, rfl, f, q⟩ := rep_lst.mp hv
    rw [reps_nil.mp hr]
    rw [reps_bools q e] at f
    exact ⟨p, bs, rfl, SqL.of (w.sqL (K := K) f), k F H _ _ (Stp.refl w) (rep_bl.mpr rfl) h⟩

/-! ### isinstance -/
theorem de_ty {x : Str} {n : String} {pos : Pos} (hg : Gl X x) (hm : X.mg x = none) (hv : bootBuiltins x = some (.type n)) (hn : x ≠ "__name__" := by decide) (hd : (x == ("__debug__" : Str)) = false := by decide) : DE X (.Name x pos) (dC (.ty n)) :=
  de_const (pe_bltn (v := .ty n) hg hm hv rfl hn hd) fun _ => rep_ty.mpr rfl
def tyD : DV → Option String
  | .non => some "NoneType"
  | .bl _ => some "bool"
  | .int _ => some "int"
  | .str _ => some "str"
  | .tup _ => some "tuple"
  | .lst _ => some "list"
  | .dic _ _ => some "dict"
  | _ => none
theorem rep_tyX {B : Bs} {F : Wo} {H : Hp} {K : PySem.W.Frag} {d : DV} {v : V} {t : String} (w : Wd B F H) (h : Rep F d v) (e : tyD d = some t) : TyX K H v (.type t) := by
  cases d <;> simp only [tyD, Option.some.injEq, reduceCtorEq] at e <;> subst e
  · rw [rep_non.mp h]; exact .base .non
  · rw [rep_bl.mp h]; exact .base (.bl _)
  · rw [rep_int.mp h]; exact .base (.int _)
  · rw [rep_str.mp h]; exact .base (.str _)
  · obtain ⟨p, vs, rfl, f, _⟩ := rep_tup.mp h; exact .base (.tup (w.sqT (K := K) f))
  · obtain ⟨p, vs, rfl, f, _⟩ := rep_lst.mp h; exact .base (.lst (w.sqL (K := K) f))
  · obtain ⟨p, vs, rfl, f, _⟩ := rep_dic.mp h
    rcases w.rdD f with q | ⟨ob, q⟩
    · exact .base (.dK q)
    · exact .fDict q
def isiD (d : DV) (n : String) : Option Bool := (tyD d).bind fun t => kitB t n
theorem isi_bool : (∀ i, isiD (.int i) "bool" = some false) ∧ (∀ i, isiD (.str i) "bool" = some false) ∧ (∀ i, isiD (.tup i) "bool" = some false) ∧ (∀ i, isiD (.lst i) "bool" = some false) ∧ (∀ i j, isiD (.dic i j) "bool" = some false) ∧ (∀ i, isiD (.bl i) "bool" = some true) ∧ isiD .non "bool" = some false := by
  refine ⟨fun _ => ?_, fun _ => ?_, fun _ => ?_, fun _ => ?_, fun _ _ => ?_, fun _ => ?_, ?_⟩
  · exact (by decide +kernel : kitB "int" "bool" = some false)
  · exact (by decide +kernel : kitB "str" "bool" = some false)
  · exact (by decide +kernel : kitB "tuple" "bool" = some false)
  · exact (by decide +kernel : kitB "list" "bool" = some false)
  · exact (by decide +kernel : kitB "dict" "bool" = some false)
  · exact (by decide +kernel : kitB "bool" "bool" = some true)
  · exact (by decide +kernel : kitB "NoneType" "bool" = some false)
theorem isi_int : (∀ i, isiD (.int i) "int" = some true) ∧ (∀ i, isiD (.str i) "int" = some false) ∧ (∀ i, isiD (.tup i) "int" = some false) ∧ (∀ i, isiD (.lst i) "int" = some false) ∧ (∀ i j, isiD (.dic i j) "int" = some false) ∧ isiD .non "int" = some false := by
  refine ⟨fun _ => ?_, fun _ => ?_, fun _ => ?_, fun _ => ?_, fun _ _ => ?_, ?_⟩
  · exact (by decide +kernel : kitB "int" "int" = some true)
  · exact (by decide +kernel : kitB "str" "int" = some false)
  · exact (by decide +kernel : kitB "tuple" "int" = some false)
  · exact (by decide +kernel : kitB "list" "int" = some false)
  · exact (by decide +kernel : kitB "dict" "int" = some false)
  · exact (by decide +kernel : kitB "NoneType" "int" = some false)
theorem isi_str : (∀ i, isiD (.int i) "str" = some false) ∧ (∀ i, isiD (.str i) "str" = some true) ∧ (∀ i, isiD (.tup i) "str" = some false) ∧ (∀ i, isiD (.lst i) "str" = some false) ∧ (∀ i j, isiD (.dic i j) "str" = some false) ∧ isiD .non "str" = some false := by
  refine ⟨fun _ => ?_, fun _ => ?_, fun _ => ?_, fun _ => ?_, fun _ _ => ?_, ?_⟩
  · exact (by decide +kernel : kitB "int" "str" = some false)
  · exact (by decide +kernel : kitB "str" "str" = some true)
  · exact (by decide +kernel : kitB "tuple" "str" = some false)
  · exact (by decide +kernel : kitB "list" "str" = some false)
  · exact (by decide +kernel : kitB "dict" "str" = some false)
  · exact (by decide +kernel : kitB "NoneType" "str" = some false)
theorem isi_dict : (∀ i, isiD (.tup i) "dict" = some false) ∧ (∀ i, isiD (.lst i) "dict" = some false) ∧ (∀ i j, isiD (.dic i j) "dict" = some true) := by
  refine ⟨fun _ => ?_, fun _ => ?_, fun _ _ => ?_⟩
  · exact (by decide +kernel : kitB "tuple" "dict" = some false)
  · exact (by decide +kernel : kitB "list" "dict" = some false)
  · exact (by decide +kernel : kitB "dict" "dict" = some true)
theorem isi_tuple : (∀ i, isiD (.tup i) "tuple" = some true) ∧ (∀ i, isiD (.lst i) "tuple" = some false) := by
  refine ⟨fun _ => ?_, fun _ => ?_⟩
  · exact (by decide +kernel : kitB "tuple" "tuple" = some true)
  · exact (by decide +kernel : kitB "list" "tuple" = some false)
theorem isi_list : (∀ i, isiD (.tup i) "list" = some false) ∧ (∀ i, isiD (.lst i) "list" = some true) := by
  refine ⟨fun _ => ?_, fun _ => ?_⟩
  · exact (by decide +kernel : kitB "tuple" "list" = some false)
  · exact (by decide +kernel : kitB "list" "list" = some true)
def fIsi (ds : List DV) (Q : DV → Prop) : Prop := match ds with
  | [x, .ty n] => ∃ b, isiD x n = some b ∧ Q (.bl b)
  | _ => False
theorem cd_isi {K : PySem.W.Frag} : ClD (rIsi K) fIsi := by
  intro B F H xs ds Q Q' w hs h k
  match ds, h with
  | [x, .ty n], h =>
    obtain ⟨b, e, h⟩ := h
    obtain ⟨v, r, rfl, hv, hr⟩ := reps_cons.mp hs
    obtain ⟨v2, r, rfl, hv2, hr⟩ := reps_cons.mp hr
    rw [reps_nil.mp hr, rep_ty.mp hv2]
    obtain ⟨t, e1, e2⟩ := Option.bind_eq_some_iff.mp e
    exact ⟨v, .ty n, .type t, .type n, b, rfl, .ty n, rep_tyX w hv e1, kit_ty e2, k F H _ _ (Stp.refl w) (rep_bl.mpr rfl) h⟩

/-! ### list, tuple, str, int, max, min, sum, sorted -/
def fList (ds : List DV) (Q : DV → Prop) : Prop := match ds with
  | [.lst xs] => Q (.lst xs)
  | [.tup xs] => Q (.lst xs)
  | [.dic ks _] => Q (.lst (ks.map keyV))
  | _ => False
def rListG (K : PySem.W.Frag) : List V → Hp → VK → Prop := fun xs H Q => (∃ p ys, xs = [.ref p] ∧ (SqL K H p ys ∨ SqT K H p ys) ∧ ∀ l, H l = none → Q (.ref l) (upd H l (.lst ys))) ∨
  ∃ (a : Addr) (kvs : List (Key × V)), xs = [.ref a] ∧ Rd H a (.dK kvs) ∧ ∀ p, H p = none → Q (.ref p) (upd H p (.lst (kvs.map fun kv => kV kv.1)))
theorem co_list (hc : X.calm = true) : CallR X (.type "list") (rListG X.K) := CallR.or call_list_of (call_listD hc)
theorem reps_keys {F : Wo} : ∀ (kvs : List (Key × V)), Reps F ((kvs.map (·.1)).map keyV) (kvs.map fun kv => kV kv.1)
  | [] => Reps.nil
  | kv :: kvs => Reps.cons (rep_keyV kv.1) (reps_keys kvs)
theorem cd_list {K : PySem.W.Frag} : ClD (rListG K) fList := by
  intro B F H xs ds Q Q' w hs h k
  match ds, h with
  | [.lst es], h =>
    obtain ⟨v, r, rfl, hv, hr⟩ := reps_cons.mp hs
    obtain ⟨p, vs, rfl, f, q⟩ := rep_lst.mp hv
    rw [reps_nil.mp hr]
    refine .inl ⟨p, vs, rfl, .inl (SqL.of (w.sqL (K := K) f)), fun l hl => ?_⟩
    obtain ⟨s, hr⟩ := Stp.lstN w hl q
    exact k _ _ _ _ s hr h
  | [.tup es], h =>
    obtain ⟨v, r, rfl, hv, hr⟩ := reps_cons.mp hs
    obtain ⟨p, vs, rfl, f, q⟩ := rep_tup.mp hv
    rw [reps_nil.mp hr]
    refine .inl ⟨p, vs, rfl, .inr (SqT.of (w.sqT (K := K) f)), fun l hl => ?_⟩
    obtain ⟨s, hr⟩ := Stp.lstN w hl q
    exact k _ _ _ _ s hr h
  | [.dic ks es], h =>
    obtain ⟨v, r, rfl, hv, hr⟩ := reps_cons.mp hs
    obtain ⟨p, kvs, rfl, f, e, q⟩ := rep_dic.mp hv
    rw [reps_nil.mp hr]
    refine .inr ⟨p, kvs, rfl, w.rdD f, fun l hl => ?_⟩
    subst e
    obtain ⟨s, hr⟩ := Stp.lstN w hl (reps_keys kvs)
    exact k _ _ _ _ s hr h
def fTuple (ds : List DV) (Q : DV → Prop) : Prop := match ds with
  | [.lst xs] => Q (.tup xs)
  | [.tup xs] => Q (.tup xs)
  | _ => False
theorem cd_tuple {K : PySem.W.Frag} : ClD (fun xs H Q => ∃ p ys, xs = [.ref p] ∧ ((SqL K H p ys ∧ ∀ l, H l = none → Q (.ref l) (upd H l (.tup ys))) ∨ (SqT K H p ys ∧ Q (.ref p) H))) fTuple := by
  intro B F H xs ds Q Q' w hs h k
  match ds, h with
  | [.lst es], h =>
    obtain ⟨v, r, rfl, hv, hr⟩ := reps_cons.mp hs
    obtain ⟨p, vs, rfl, f, q⟩ := rep_lst.mp hv
    rw [reps_nil.mp hr]
    refine ⟨p, vs, rfl, .inl ⟨SqL.of (w.sqL (K := K) f), fun l hl => ?_⟩⟩
    obtain ⟨s, hr⟩ := Stp.tupN w hl q
    exact k _ _ _ _ s hr h
  | [.tup es], h =>
    obtain ⟨v, r, rfl, hv, hr⟩ := reps_cons.mp hs
    have hv' := hv
    obtain ⟨p, vs, rfl, f, q⟩ := rep_tup.mp hv
    rw [reps_nil.mp hr]
    exact ⟨p, vs, rfl, .inr ⟨SqT.of (w.sqT (K := K) f), k F H _ _ (Stp.refl w) hv' h⟩⟩
def fStrI (ds : List DV) (Q : DV → Prop) : Prop := match ds with
  | [.int i] => i.natAbs.log2 < 1920 ∧ Q (.str (toString i))
  | _ => False
theorem cd_stri : ClD (fun xs H Q => ∃ i : Int, xs = [.int i] ∧ i.natAbs.log2 < 1920 ∧ Q (.str (toString i)) H) fStrI := by
  intro B F H xs ds Q Q' w hs h k
  match ds, h with
  | [.int i], h =>
    obtain ⟨v, r, rfl, hv, hr⟩ := reps_cons.mp hs
    rw [reps_nil.mp hr, rep_int.mp hv]
    exact ⟨i, rfl, h.1, k F H _ _ (Stp.refl w) (rep_str.mpr rfl) h.2⟩
def fIntS (ds : List DV) (Q : DV → Prop) : Prop := match ds with
  | [.str a] => ∃ n, PySem.intText? a = some n ∧ a.length ≤ 640 ∧ Q (.int n)
  | _ => False
theorem cd_ints : ClD (fun xs H Q => ∃ a n, xs = [.str a] ∧ PySem.intText? a = some n ∧ a.length ≤ 640 ∧ Q (.int n) H) fIntS := by
  intro B F H xs ds Q Q' w hs h k
  match ds, h with
  | [.str a], h =>
    obtain ⟨n, e, hl, h⟩ := h
    obtain ⟨v, r, rfl, hv, hr⟩ := reps_cons.mp hs
    rw [reps_nil.mp hr, rep_str.mp hv]
    exact ⟨a, n, rfl, e, hl, k F H _ _ (Stp.refl w) (rep_int.mpr rfl) h⟩
def f2I (g : Int → Int → Int) (ds : List DV) (Q : DV → Prop) : Prop := match ds with
  | [.int i, .int j] => Q (.int (g i j))
  | _ => False
theorem cd_2i {g : Int → Int → Int} : ClD (fun xs H Q => ∃ i j, xs = [.int i, .int j] ∧ Q (.int (g i j)) H) (f2I g) := by
  intro B F H xs ds Q Q' w hs h k
  match ds, h with
  | [.int i, .int j], h =>
    obtain ⟨v, r, rfl, hv, hr⟩ := reps_cons.mp hs
    obtain ⟨v2, r, rfl, hv2, hr⟩ := reps_cons.mp hr
    rw [reps_nil.mp hr, rep_int.mp hv, rep_int.mp hv2]
    exact ⟨i, j, rfl, k F H _ _ (Stp.refl w) (rep_int.mpr rfl) h⟩
def fMax2 : List DV → (DV → Prop) → Prop := f2I fun i j => if j > i then j else i
def fMin2 : List DV → (DV → Prop) → Prop := f2I fun i j => if j < i then j else i
theorem reps_strs {F : Wo} : ∀ {ss : List Str} {vs : List V}, Reps F (ss.map DV.str) vs → vs = ss.map V.str
  | [], _, h => reps_nil.mp h
  | s :: ss, _, h => by
    obtain ⟨v, r, rfl, hv, hr⟩ := reps_cons.mp h
    rw [rep_str.mp hv, reps_strs hr]; rfl
theorem strs_reps {F : Wo} : ∀ (ss : List Str), Reps F (ss.map DV.str) (ss.map V.str)
  | [] => Reps.nil
  | s :: ss => Reps.cons (rep_str.mpr rfl) (strs_reps ss)
theorem reps_ints {F : Wo} : ∀ {ss : List Int} {vs : List V}, Reps F (ss.map DV.int) vs → vs = ss.map V.int
  | [], _, h => reps_nil.mp h
  | s :: ss, _, h => by
    obtain ⟨v, r, rfl, hv, hr⟩ := reps_cons.mp h
    rw [rep_int.mp hv, reps_ints hr]; rfl
theorem ints_reps {F : Wo} : ∀ (ss : List Int), Reps F (ss.map DV.int) (ss.map V.int)
  | [] => Reps.nil
  | s :: ss => Reps.cons (rep_int.mpr rfl) (ints_reps ss)
/-- sorted: texts, ints -/
def fSorted (ds : List DV) (Q : DV → Prop) : Prop := ∃ xs, ds = [.lst xs] ∧
  ((∃ ss : List Str, xs = ss.map DV.str ∧ ss.length < 64 ∧ ∀ ys : List Str, ys.Perm ss → PyProof.Rows.sortedS ys = true → Q (.lst (ys.map DV.str))) ∨
   ∃ ns : List Int, xs = ns.map DV.int ∧ ∀ ms : List Int, ms.Perm ns → ms.Pairwise (· ≤ ·) → Q (.lst (ms.map DV.int)))
theorem cd_sorted {K : PySem.W.Frag} : ClD (fun vs H Q => rSortedS K vs H Q ∨ rSortedI K vs H Q) fSorted := by
  intro B F H xs ds Q Q' w hs h k
  obtain ⟨es, rfl, h⟩ := h
  obtain ⟨v, r, rfl, hv, hr⟩ := reps_cons.mp hs
  obtain ⟨p, vs, rfl, f, q⟩ := rep_lst.mp hv
  rw [reps_nil.mp hr]
  rcases h with ⟨ss, rfl, hl, h⟩ | ⟨ns, rfl, h⟩
  · rw [reps_strs q] at f
    refine .inl ⟨p, ss, rfl, SqL.of (w.sqL (K := K) f), hl, fun ys l h1 h2 hl => ?_⟩
    obtain ⟨s, hr⟩ := Stp.lstN w hl (strs_reps ys)
    exact k _ _ _ _ s hr (h ys h1 h2)
  · rw [reps_ints q] at f
    refine .inr ⟨p, ns, rfl, SqL.of (w.sqL (K := K) f), fun ys l h1 h2 hl => ?_⟩
    obtain ⟨s, hr⟩ := Stp.lstN w hl (ints_reps ys)
    exact k _ _ _ _ s hr (h ys h1 h2)
theorem co_sorted : CallR X (.builtin "sorted") (fun vs H Q => rSortedS X.K vs H Q ∨ rSortedI X.K vs H Q) := CallR.or cr_sortedS cr_sortedI

/-! ### methods of texts -/
def MtD (r : V → List V → Hp → VK → Prop) (f : DV → List DV → (DV → Prop) → Prop) : Prop := ∀ (B : Bs) (F : Wo) (H : Hp) (x : V) (xs : List V) (dx : DV) (ds : List DV) (Q : VK) (Q' : DV → Prop), Wd B F H → Rep F dx x → Reps F ds xs → f dx ds Q' →
  (∀ F' H' d v, Stp B F H F' H' → Rep F' d v → Q' d → Q v H') → r x xs H Q
def dMs (f : DV → List DV → (DV → Prop) → Prop) (a : AE) (t : AA) : AE := fun ρ Q => a ρ fun x ρ1 => (∃ z, x = .str z) ∧ t ρ1 fun ds ρ2 => f x ds fun z => Q z ρ2
variable {o e : Expr} {es : List Expr} {a : AE} {t : AA} {name : Str} {apos cpos : Pos} {id : String} {r : V → List V → Hp → VK → Prop} {f : DV → List DV → (DV → Prop) → Prop}
theorem de_ms (slot : PySem.Slot "str" name id) (hty : typeOf (.builtin id) = pure (.type "method_descriptor")) (hm : MtR X id r) (hf : MtD r f) (ho : DE X o a) (ha : DA X (e :: es) t)
    (hbase : attributeBase o name X.env (eval o X.env) = eval o X.env := by rfl)
    (hfew : ((backTo cpos (starEach (e :: es) X.env)).all (fun x => !x.1) && (backToKw cpos (keywordEach [] X.env)).all (fun x => x.1.isSome)
      && decide ((e :: es).length + ([] : List Keyword).length + (if ([] : List Keyword).isEmpty then 0 else 1) < 30)) = true := by rfl)
    (hline : (apos.endLine == cpos.line) = true := by rfl) (hs : starEach (e :: es) X.env = (false, eval e X.env) :: starEach es X.env := by rfl) (hplain : (backTo cpos (starEach es X.env)).any (·.1) = false := by rfl) :
    DE X (.Call (.Attribute o name apos) (e :: es) [] cpos) (dMs f a t) := by
  refine ⟨pe_imp (pe_bm PySem.F.plainAttrs_str slot hty hm ho.pe ha.pa hbase hfew hline hs hplain) fun σ H Q h => ?_⟩
  obtain ⟨B, F, ρ, Q', w, r0, q, k⟩ := h
  refine ⟨B, F, ρ, _, w, r0, q, fun F1 H1 ρ1 dx x w1 x1 r1 hx q1 => ?_⟩
  obtain ⟨⟨z, rfl⟩, q1⟩ := q1
  have ex := rep_str.mp hx
  subst ex
  refine ⟨rfl, B, F1, ρ1, _, w1, r1, q1, fun F2 H2 ρ2 ds vs w2 x2 r2 hs q2 => ?_⟩
  exact hf B F2 H2 _ vs _ ds Q _ w2 (rep_str.mpr rfl) hs q2 fun F3 H3 d v s hr q3 => k F3 H3 ρ2 d v s.wd (x1.trans (x2.trans s.ext)) (s.st _ _ r2) hr q3
theorem de_ms0 (slot : PySem.Slot "str" name id) (hty : typeOf (.builtin id) = pure (.type "method_descriptor")) (hm : MtR X id r) (hf : MtD r f) (ho : DE X o a)
    (hbase : attributeBase o name X.env (eval o X.env) = eval o X.env := by rfl) (hline : (apos.endLine == cpos.line) = true := by rfl) :
    DE X (.Call (.Attribute o name apos) [] [] cpos) (dMs f a dNil) := by
  refine ⟨pe_imp (pe_bm0 PySem.F.plainAttrs_str slot hty hm ho.pe hbase hline) fun σ H Q h => ?_⟩
  obtain ⟨B, F, ρ, Q', w, r0, q, k⟩ := h
  refine ⟨B, F, ρ, _, w, r0, q, fun F1 H1 ρ1 dx x w1 x1 r1 hx q1 => ?_⟩
  obtain ⟨⟨z, rfl⟩, q1⟩ := q1
  have ex := rep_str.mp hx
  subst ex
  exact ⟨rfl, hf B F1 H1 _ [] _ [] Q _ w1 (rep_str.mpr rfl) Reps.nil q1 fun F3 H3 d v s hr q3 => k F3 H3 ρ1 d v s.wd (x1.trans s.ext) (s.st _ _ r1) hr q3⟩
/-- sep.join(texts) -/
def fJoin (x : DV) (ds : List DV) (Q : DV → Prop) : Prop := ∃ a ys, x = .str a ∧ (ds = [.lst (ys.map DV.str)] ∨ ds = [.tup (ys.map DV.str)]) ∧
  (ys.map Str.length).sum + ys.length * a.length ≤ 16777216 ∧ Q (.str (Txt.join a ys))
theorem md_join {K : PySem.W.Frag} : MtD (fun x xs H Q => ∃ a p, ∃ ys : List Str, x = .str a ∧ xs = [.ref p] ∧ (SqL K H p (ys.map V.str) ∨ SqT K H p (ys.map V.str)) ∧
    (ys.map (·.length)).sum + ys.length * a.length ≤ 16777216 ∧ Q (.str (Txt.join a ys)) H) fJoin := by
  intro B F H x xs dx ds Q Q' w hx hs h k
  obtain ⟨a, ys, rfl, hd, hz, h⟩ := h
  rw [rep_str.mp hx]
  rcases hd with rfl | rfl
  · obtain ⟨v, r, rfl, hv, hr⟩ := reps_cons.mp hs
    obtain ⟨p, vs, rfl, f, q⟩ := rep_lst.mp hv
    rw [reps_nil.mp hr]
    rw [reps_strs q] at f
    exact ⟨a, p, ys, rfl, rfl, .inl (SqL.of (w.sqL (K := K) f)), hz, k F H _ _ (Stp.refl w) (rep_str.mpr rfl) h⟩
  · obtain ⟨v, r, rfl, hv, hr⟩ := reps_cons.mp hs
    obtain ⟨p, vs, rfl, f, q⟩ := rep_tup.mp hv
    rw [reps_nil.mp hr]
    rw [reps_strs q] at f
    exact ⟨a, p, ys, rfl, rfl, .inr (SqT.of (w.sqT (K := K) f)), hz, k F H _ _ (Stp.refl w) (rep_str.mpr rfl) h⟩
/-- s.split(sep) -/
def fSplit (x : DV) (ds : List DV) (Q : DV → Prop) : Prop := ∃ a b, x = .str a ∧ ds = [.str b] ∧ (b.length == 0) = false ∧ a.length + 2 ≤ sizeLine ∧ Q (.lst ((Txt.split a b).map DV.str))
theorem md_split : MtD (fun x xs H Q => ∃ a b, x = .str a ∧ xs = [.str b] ∧ (b.length == 0) = false ∧ a.length + 2 ≤ sizeLine ∧ rNewStrs (Txt.split a b) H Q) fSplit := by
  intro B F H x xs dx ds Q Q' w hx hs h k
  obtain ⟨a, b, rfl, rfl, h1, h2, h⟩ := h
  obtain ⟨v, r, rfl, hv, hr⟩ := reps_cons.mp hs
  rw [rep_str.mp hx, reps_nil.mp hr, rep_str.mp hv]
  refine ⟨a, b, rfl, rfl, h1, h2, fun p hp => ?_⟩
  obtain ⟨s, hr⟩ := Stp.lstN w hp (strs_reps (Txt.split a b))
  exact k _ _ _ _ s hr h
end
end DL

/-! The data layer, part G: own lists and dicts. -/
namespace DL
open PySem L2

def Has (ρ : DSt) (i : Nat) : Prop := match ρ[i]? with
  | some (some _) => True
  | _ => False
/-- what stands in a slot, read where it is -/
def look (ρ : DSt) (i : Nat) (Q : DV → Prop) : Prop := match ρ[i]? with
  | some (some (.val d)) => Q d
  | some (some (.own d)) => Q d
  | _ => False
theorem RSt.has {B : Bs} {F : Wo} {ρ : DSt} {σ : St} {H : Hp} (r : RSt B F ρ σ H) {i : Nat} (h : Has ρ i) : ∃ v, σ[i]? = some (some v) := by
  unfold Has at h
  split at h
  next l e =>
    cases l with
    | val d => obtain ⟨v, q, _⟩ := r.val i d e; exact ⟨v, q⟩
    | own d => obtain ⟨p, q, _⟩ := r.own i d e; exact ⟨_, q⟩
  next => exact False.elim h
section
variable {X : Cx} {pos p1 : Pos} {e : Expr} {b : AE}
/-- x[e], x a local: nothing is frozen -/
def dIxV (i : Nat) (b : AE) : AE := fun ρ Q => Has ρ i ∧ b ρ fun y ρ1 => look ρ1 i fun d => fIx d y fun z => Q z ρ1
theorem de_ixV {i : Nat} {x : Str} (hN : X.N[i]? = some x) (hv : Vis X.env.scope x) (hu : X.A.units + 100 < cLine) (h2 : DE X e b) (hs : PlainIx e := by intro _ _; rfl) (hd : (x == ("__debug__" : Str)) = false := by decide) (hcd : (x == ("__classdict__" : Str)) = false := by decide) :
    DE X (.Subscript (.Name x p1) e pos) (dIxV i b) := by
  refine ⟨pe_imp (pe_ix (oo_ix hu) (pe_var hN hv hd hcd) h2.pe hs) fun σ H Q h => ?_⟩
  obtain ⟨B, F, ρ, Q', w, r, ⟨hh, q⟩, k⟩ := h
  obtain ⟨v, hv⟩ := r.has hh
  refine ⟨v, hv, B, F, ρ, _, w, r, q, fun F1 H1 ρ1 dy y w1 x1 r1 hy q1 => ?_⟩
  unfold look at q1
  split at q1
  next d e =>
    obtain ⟨v', hv', hr⟩ := r1.val i d e
    rw [hv] at hv'; cases hv'
    exact od_ix B F1 H1 v y d dy Q _ w1 hr hy q1 fun F2 H2 d2 v2 s hr2 q2 => k F2 H2 ρ1 d2 v2 s.wd (x1.trans s.ext) (s.st _ _ r1) hr2 q2
  next d e =>
    obtain ⟨p, hv', ho, _⟩ := r1.own i d e
    rw [hv] at hv'; cases hv'
    exact own_ix w1 ho hy q1 fun d2 v2 hr2 q2 => k F1 H1 ρ1 d2 v2 w1 x1 r1 hr2 q2
  next => exact False.elim q1
/-- x[i] = e of an own list or dict -/
def putD (ks : List Key) (vs : List DV) (k : Key) (d : DV) : List Key × List DV :=
  if (ks.any fun q => decide (q = k)) = true then (ks, (ks.zip vs).map fun p => if p.1 = k then d else p.2) else (ks ++ [k], vs ++ [d])
def fPut (x z y : DV) (Q : DV → Prop) : Prop := match x with
  | .lst ds => ∃ j k, z = .int j ∧ ixN ds.length j = some k ∧ Q (.lst (ds.set k y))
  | .lsa a ds => ∃ j k, z = .int j ∧ ixN ds.length j = some k ∧ Q (.lsa a (ds.set k y))
  | .dic ks vs => ∃ k, keyD z = some k ∧ ks.length < sizeLine ∧ Q (.dic (putD ks vs k y).1 (putD ks vs k y).2)
  | _ => False
def ownS (ρ : DSt) (i : Nat) (Q : DV → Prop) : Prop := match ρ[i]? with
  | some (some (.own d)) => Q d
  | _ => False
def rPut : V → V → V → Hp → (Hp → Prop) → Prop := fun o i v H Q => rSetL o i v H Q ∨ ∃ a H4, o = .ref a ∧ DPut H a i v H4 ∧ Q H4
theorem so_put (hu : X.A.units + 100 < cLine) : PSet X rPut := by
  intro pins s σ H o i v ov iv u Q I ro ri rv h
  rcases h with h | ⟨a, H4, rfl, g, q⟩
  · exact set_list pins s σ H o i v ov iv u Q I ro ri rv h
  · obtain rfl : ov = Value.ref a := ro
    exact d_setItem (by omega) I g ri rv fun s4 I4 => ⟨H4, I4, q⟩
theorem putK_keys {kvs : List (Key × V)} {k : Key} {v : V} {vs : List DV} {d : DV} {F : Wo} (h : Reps F vs (kvs.map (·.2))) (hd : Rep F d v) :
    (putK kvs k v).map (·.1) = (putD (kvs.map (·.1)) vs k d).1 ∧ Reps F (putD (kvs.map (·.1)) vs k d).2 ((putK kvs k v).map (·.2)) := by
  have e : (kvs.any fun kv => decide (kv.1 = k)) = ((kvs.map (·.1)).any fun q => decide (q = k)) := by rw [List.any_map]; rfl
  unfold putK putD
  rw [e]
  by_cases c : ((kvs.map (·.1)).any fun q => decide (q = k)) = true
  · rw [if_pos c, if_pos c]
    refine ⟨?_, ?_⟩
    · rw [List.map_map]
      refine List.map_congr_left fun kv _ => ?_
      show (if kv.1 = k then (kv.1, v) else kv).1 = kv.1
      split <;> rfl
    · clear c e
      show Reps F (((kvs.map (·.1)).zip vs).map fun p => if p.1 = k then d else p.2) ((kvs.map fun kv => if kv.1 = k then (kv.1, v) else kv).map (·.2))
      induction kvs generalizing vs with
      | nil => simp [reps_nil]
      | cons kv kvs ih =>
        cases vs with
        | nil => rw [List.map_cons] at h; exact absurd (reps_nil.mp h) (by simp)
        | cons d0 vs =>
          obtain ⟨v0, r, e0, h1, h2⟩ := reps_cons.mp h
          rw [List.map_cons] at e0
          cases e0
          simp only [List.map_cons, List.zip_cons_cons]
          refine Reps.cons ?_ (ih h2)
          by_cases c : kv.1 = k
          · rw [if_pos c, if_pos c]; exact hd
          · rw [if_neg c, if_neg c]; exact h1
  · rw [if_neg c, if_neg c]
    exact ⟨by simp, by simpa using h.append (Reps.cons hd Reps.nil)⟩
def dPut (i : Nat) (b a : AE) : ASt := fun K ρ => a ρ fun y ρ1 => Has ρ1 i ∧ b ρ1 fun z ρ2 => ownS ρ2 i fun d => fPut d z y fun d' => K.nx (ρ2.set i (some (Lv.own d')))
theorem ds_put {i : Nat} {x : Str} {ev : Expr} {a : AE} {p3 : Pos} (hN : X.N[i]? = some x) (hv : Vis X.env.scope x) (hu : X.A.units + 100 < cLine) (h1 : DE X e b) (h2 : DE X ev a) (hd : (x == ("__debug__" : Str)) = false := by decide) (hcd : (x == ("__classdict__" : Str)) = false := by decide)
    (ha : ∀ v, assign (.Subscript (.Name x p1) e p3) X.env v = (do
      let ov ← holding [v] (eval (.Name x p1) X.env)
      let iv ← holding [v, ov] (eval e X.env)
      standAt p3
      holding [v, ov, iv] (setItem ov iv v)
      release [v, ov, iv] []) := by intro _; rfl)
    (hs : swapsWithSole [.Subscript (.Name x p1) e p3] ev pos.line X.env = pure false := by rfl) (hw : swappedStores [.Subscript (.Name x p1) e p3] ev X.env = pure none := by rfl)
    (h3 : (assignEach [.Subscript (.Name x p1) e p3] X.env).map (·.2) = [assign (.Subscript (.Name x p1) e p3) X.env] := by rfl) : DS X (.Assign [.Subscript (.Name x p1) e p3] ev pos) (dPut i b a) := by
  refine ⟨ps_imp (ps_asg h2.pe (pg_sub (pe_var hN hv hd hcd) h1.pe (so_put hu) ha) hs hw h3) fun D σ H h => ?_⟩
  obtain ⟨B, F, ρ, K, w, r, q, k⟩ := h
  refine ⟨B, F, ρ, _, w, r, q, fun F1 H1 ρ1 dy y w1 x1 r1 hy ⟨hh, q1⟩ => ?_⟩
  obtain ⟨v, hv⟩ := r1.has hh
  refine ⟨v, hv, B, F1, ρ1, _, w1, r1, q1, fun F2 H2 ρ2 dz z w2 x2 r2 hz q2 => ?_⟩
  unfold ownS at q2
  split at q2
  next d e2 =>
    obtain ⟨p, hv', ho, _⟩ := r2.own i d e2
    rw [hv] at hv'; cases hv'
    have hy2 := hy.mono x2
    cases d with
    | lst ds =>
      obtain ⟨j, n, rfl, hj, q2⟩ := q2
      obtain ⟨vs, hp, hr⟩ := ho
      rw [rep_int.mp hz]
      refine .inl ⟨p, vs, j, n, rfl, rfl, hp, by rw [← hr.length]; exact hj, ?_⟩
      obtain ⟨w3, r3⟩ := r2.turn w2 (d' := .lst (ds.set n dy)) e2 hv ⟨_, upd_same, hr.set hy2 n⟩
      exact k.nx F2 _ σ _ w3 (x1.trans x2) r3 q2
    | lsa a ds =>
      obtain ⟨j, n, rfl, hj, q2⟩ := q2
      obtain ⟨rfl, vs, hp, hr⟩ := ho
      rw [rep_int.mp hz]
      refine .inl ⟨p, vs, j, n, rfl, rfl, hp, by rw [← hr.length]; exact hj, ?_⟩
      obtain ⟨w3, r3⟩ := r2.turn w2 (d' := .lsa p (ds.set n dy)) e2 hv ⟨rfl, _, upd_same, hr.set hy2 n⟩
      exact k.nx F2 _ σ _ w3 (x1.trans x2) r3 q2
    | dic ks ds =>
      obtain ⟨kk, hk, hl, q2⟩ := q2
      obtain ⟨kvs, hp, he, hr⟩ := ho
      subst he
      rw [rep_key hz hk]
      have pk := putK_keys (k := kk) hr hy2
      refine .inr ⟨p, _, rfl, DPut.k hp (by simpa using hl), ?_⟩
      obtain ⟨w3, r3⟩ := r2.turn w2 (d' := .dic (putD (kvs.map (·.1)) ds kk dy).1 (putD (kvs.map (·.1)) ds kk dy).2) e2 hv ⟨_, upd_same, pk.1, pk.2⟩
      exact k.nx F2 _ σ _ w3 (x1.trans x2) r3 q2
    | _ => exact False.elim q2
  next => exact False.elim q2
end
end DL

/-! The data layer, part P: the law's bag, its draws, the law's own def. -/
namespace DL
open PySem L2

/-! ### a draw: the bag is an own list within -/
def bagC (p q : Addr) (cs : List Int) (i c s : Int) : DV := .lsa p [.lsa q (cs.map DV.int), .int i, .int c, .int s]
def BagOk (n : Nat) (i c s : Int) : Prop := 0 ≤ i ∧ i ≤ n ∧ 0 ≤ c ∧ 0 ≤ s ∧ s < 2147483647
def spPull : DSp := fun ds Q _ => ∃ p n, ds = [.bag p, .int n] ∧ 0 < n ∧ n.natAbs.log2 < 9000 ∧ ∀ k, 0 ≤ k → k < n → Q (.int k)
section
variable {P : Program} {w : World} {K : PySem.W.Frag} {mg : Str → Option Value} {base : Heap}
theorem dpull_ok {x qual : Str} {st : Stmt} {f : Addr} {fd : FuncData} {N ps : List Str} {k : Nat} (Fn : Fun K x qual st f fd) (S : FnScope N ps (defScope st)) (hps : ps.length = 2) {a : ASt}
    (hbody : ∀ (cdv : Value) (A : Around) (outer : List Env) (s : Shared) (H : Hp) (E : XK), Room k (A.deeper (PyProof.Rows.envOfC qual (defScope st) s.heap.objs.size f cdv)) →
      DSs (cxOf CX0 P w K mg base N qual (defScope st) f cdv A outer s H E).nox (defBody st) a)
    (hsp : ∀ (p q : Addr) (cs : List Int) (i c s n : Int) (Q : DV → Prop), cs.length ≤ 63 → BagOk cs.length i c s → 0 < n → n.natAbs.log2 < 9000 → (∀ k, 0 ≤ k → k < n → Q (.int k)) →
      a { nx := fun _ => False, rt := fun d ρ => Q d ∧ ∃ i c s, BagOk cs.length i c s ∧ ρ[0]? = some (some (Lv.own (bagC p q cs i c s))) }
        (some (Lv.own (bagC p q cs i c s)) :: some (Lv.val (.int n)) :: List.replicate (N.length - 2) none)) : FnOk P w K mg base CX0 (k + 1) f fd ps (spD spPull) := by
  refine Fn.ok S (fun vs H Q E ⟨F, ds, Q', E', _, hr, ⟨p, n, e, _⟩, _⟩ => by rw [← hr.length, e, hps]; rfl) fun cdv A outer s H vs Q E hroom h => ?_
  obtain ⟨F, ds, Q', E', w0, hr, ⟨p, n, rfl, n0, nl, hk⟩, hq, hx⟩ := h
  obtain ⟨v, r, rfl, hv, hr⟩ := reps_cons.mp hr
  obtain ⟨v2, r, rfl, hv2, hr⟩ := reps_cons.mp hr
  rw [reps_nil.mp hr, rep_int.mp hv2]
  obtain ⟨rfl, q, cs, fq, hcs, fp⟩ := rep_bag.mp hv
  obtain ⟨o, hp, i, c, sl, rfl, ok⟩ := w0.ce p _ fp
  have hpz : F.fz p = none := by
    cases e : F.fz p with
    | none => rfl
    | some o => rw [w0.dj p o e] at fp; cases fp
  have hce : ∀ b, b ≠ p → (if b = p then none else F.ce b) = F.ce b := fun b n => if_neg n
  refine ⟨_, (hbody cdv A outer s H E hroom).ps, ⟨⟨F.fz, fun b => if b = p then none else F.ce b⟩, fun b => if b = p then none else H b, fun _ => none⟩, ⟨F.fz, fun b => if b = p then none else F.ce b⟩, _, _, ?_, ?_, hsp p q cs i c sl n Q' hcs ok n0 nl hk, ⟨?_, ?_, ?_, ?_⟩⟩
  · refine ⟨Ext.refl _, w0.fz, fun b f e => ?_, fun _ _ e => .inl e, fun _ _ e => .inl e, fun b o e _ => ?_, fun b o e => ?_, fun _ _ e => nomatch e⟩
    · have e : (if b = p then none else F.ce b) = some f := e
      split at e
      · cases e
      · exact w0.ce b f e
    · have e : (if b = p then none else H b) = some o := e
      split at e
      · cases e
      · exact .inl e
    · show (if b = p then none else F.ce b) = none
      split
      · rfl
      · exact w0.dj b o e
  · have hN : 2 ≤ N.length := by
      have := congrArg List.length S.pre
      rw [List.length_take, hps] at this
      omega
    refine ⟨fun j d e => ?_, fun j d e => ?_, fun j l d e b hjl h1 h2 => ?_, ?_⟩
    · match j, e with
      | 0, e => simp at e
      | 1, e =>
        simp only [List.getElem?_cons_succ, List.getElem?_cons_zero, Option.some.injEq, Lv.val.injEq] at e
        subst e
        exact ⟨_, rfl, rep_int.mpr rfl⟩
      | j + 2, e =>
        simp only [List.getElem?_cons_succ, List.getElem?_replicate] at e
        split at e <;> cases e
    · match j, e with
      | 0, e =>
        simp only [List.getElem?_cons_zero, Option.some.injEq, Lv.own.injEq] at e
        subst e
        refine ⟨p, rfl, ⟨rfl, _, hp, ?_⟩, if_pos rfl, hpz, if_pos rfl, rfl⟩
        exact Reps.cons (rep_lsa.mpr ⟨rfl, _, fq, ints_reps cs⟩) (Reps.cons (rep_int.mpr rfl) (Reps.cons (rep_int.mpr rfl) (Reps.cons (rep_int.mpr rfl) Reps.nil)))
      | 1, e => simp at e
      | j + 2, e =>
        simp only [List.getElem?_cons_succ, List.getElem?_replicate] at e
        split at e <;> cases e
    · match j, l, h1, h2 with
      | 0, 0, _, _ => exact absurd rfl hjl
      | 0, 1, _, h2 => simp at h2
      | 0, l + 2, _, h2 =>
        simp only [List.getElem?_cons_succ, List.getElem?_replicate] at h2
        split at h2 <;> cases h2
      | 1, _, h1, _ => simp at h1
      | j + 2, _, h1, _ =>
        simp only [List.getElem?_cons_succ, List.getElem?_replicate] at h1
        split at h1 <;> cases h1
    · unfold L2.start
      simp only [List.length_cons, List.length_replicate, List.length_append, List.length_map, List.length_nil]
      omega
  · exact fun _ _ _ _ _ _ _ q' => False.elim q'
  · exact fun _ _ _ _ _ _ _ q' => False.elim q'
  · exact fun _ _ _ _ _ _ _ q' => False.elim q'
  · intro F' H' σ' ρ' d v w' x' r' hd ⟨hQ, i', c', s', ok', e⟩
    obtain ⟨p', hs, ⟨rfl, vs, hp', hr'⟩, _, n1, n2, _⟩ := r'.own 0 _ e
    obtain ⟨v0, r, rfl, h0, hr'⟩ := reps_cons.mp hr'
    obtain ⟨v1, r, rfl, h1, hr'⟩ := reps_cons.mp hr'
    obtain ⟨v2, r, rfl, h2, hr'⟩ := reps_cons.mp hr'
    obtain ⟨v3, r, rfl, h3, hr'⟩ := reps_cons.mp hr'
    rw [reps_nil.mp hr', (rep_lsa.mp h0).1, rep_int.mp h1, rep_int.mp h2, rep_int.mp h3] at hp'
    have xx : Ext F' ⟨F'.fz, fun b => if b = p' then F.ce p' else F'.ce b⟩ := ⟨fun _ _ e => e, fun b f e => by
      show (if b = p' then F.ce p' else F'.ce b) = some f
      by_cases z : b = p'
      · rw [z, n2] at e; cases e
      · rw [if_neg z]; exact e⟩
    refine hq ⟨F'.fz, fun b => if b = p' then F.ce p' else F'.ce b⟩ H' d v ⟨⟨fun b o e => x'.1 b o e, fun b f e => ?_⟩, w'.fz, fun b f e => ?_, fun b o e => ?_, fun b f e => ?_, fun b o e z => ?_, fun b o e => ?_, fun _ _ e => nomatch e⟩ (hd.mono xx) hQ
    · show (if b = p' then F.ce p' else F'.ce b) = some f
      by_cases z : b = p'
      · rw [if_pos z, ← z]; exact e
      · rw [if_neg z]; exact x'.2 b f (by show (if b = p' then none else F.ce b) = some f; rw [if_neg z]; exact e)
    · have e : (if b = p' then F.ce p' else F'.ce b) = some f := e
      by_cases z : b = p'
      · rw [if_pos z, fp] at e
        cases e
        rw [z]
        exact ⟨_, hp', i', c', s', rfl, ok'⟩
      · rw [if_neg z] at e; exact w'.ce b f e
    · rcases w'.nfz b o e with y | y
      · exact .inl y
      · have y : (if b = p' then none else H b) = none := y
        by_cases z : b = p'
        · have e : F'.fz b = some o := e
          rw [z, n1] at e; cases e
        · rw [if_neg z] at y; exact .inr y
    · have e : (if b = p' then F.ce p' else F'.ce b) = some f := e
      by_cases z : b = p'
      · rw [if_pos z] at e; exact .inl (by rw [z]; exact e)
      · rw [if_neg z] at e
        rcases w'.nce b f e with y | y
        · have y : (if b = p' then none else F.ce b) = some f := y
          rw [if_neg z] at y; exact .inl y
        · have y : (if b = p' then none else H b) = none := y
          rw [if_neg z] at y; exact .inr y
    · have e : H b = some o := e
      have z : F.ce b = none := z
      have nb : b ≠ p' := fun y => by rw [y, fp] at z; cases z
      exact w'.fr b o (by show (if b = p' then none else H b) = some o; rw [if_neg nb]; exact e) (by show (if b = p' then none else F.ce b) = none; rw [if_neg nb]; exact z)
    · show (if b = p' then F.ce p' else F'.ce b) = none
      by_cases z : b = p'
      · have e : F'.fz b = some o := e
        rw [z, n1] at e; cases e
      · rw [if_neg z]; exact w'.dj b o e
end

/-! ### the bag's making -/
def spBag (K : PySem.W.Frag) : Sp := fun vs H Q _ => ∃ (a : Addr) (ns : List Int), vs = [.ref a] ∧ SqL K H a (ns.map V.int) ∧ ns.length ≤ 63 ∧
  ∀ H' p q s, Same H H' → p ≠ q → H' q = some (.lst (ns.map V.int)) → H' p = some (.lst [.ref q, .int 0, .int 0, .int s]) → 0 ≤ s → s < 2147483647 → Q (.ref p) H'
abbrev rA : R2 := rI0 fun i j => .int (i + j)
abbrev rM : R2 := rI CMul fun i j => .int (i * j)
abbrev rR : R2 := rI (fun _ j => 0 < j) fun i j => .int (i % j)
abbrev rLs (K : PySem.W.Frag) : List V → Hp → VK → Prop := fun xs H Q => ∃ p ys, xs = [.ref p] ∧ (SqL K H p ys ∨ SqT K H p ys) ∧ ∀ l, H l = none → Q (.ref l) (upd H l (.lst ys))
abbrev tCut (K : PySem.W.Frag) : TE := tSl (rSlL K) (tVar 0) tNoPart (tPart (tC (.int 63)))
def tBag (K : PySem.W.Frag) : TS := tSeq (tAsg (tC (.int 9473)) (gName 1)) (tSeq
  (tFor (iList K (tCut K)) (gName 2) (tAsg (tOp rR (tOp rA (tOp rA (tOp rM (tVar 1) (tC (.int 48271))) (tOp rR (tVar 2) (tC (.int 2147483629)))) (tC (.int 5))) (tC (.int 2147483647))) (gName 1)))
  (tRet (tLst (tCons (tCB (rLs K) (tCons (tCut K) tNil)) (tCons (tC (.int 0)) (tCons (tC (.int 0)) (tCons (tVar 1) tNil)))))))
theorem cut63 {xs : List V} (h : xs.length ≤ 63) : cutV xs none (some 63) = xs := by
  unfold cutV
  have e : HT.sIx xs.length xs.length (some 63) = xs.length := by
    have := HT.sIx_nat xs.length xs.length 63
    have e2 : HT.sIx xs.length xs.length (some ((63 : Nat) : Int)) = min 63 xs.length := this
    rw [show (some (63 : Int)) = some ((63 : Nat) : Int) from rfl, e2]
    omega
  rw [e, HT.sIx_none, List.drop_zero, Nat.sub_zero, List.take_length]
theorem same_new {H : Hp} {p : Addr} {o : HO} (h : H p = none) : Same H (upd H p o) := fun b x e => by
  rw [upd_ne (ne_of_none e h)]
  exact e
theorem bag_read {K : PySem.W.Frag} {vs : List V} {H : Hp} {Q : VK} {E : XK} (h : spBag K vs H Q E) : tBag K { nx := fun _ H' => Q .non H', rt := Q } (L2.start ["_law_script", "_law_salt", "_law_cell"] vs) H := by
  obtain ⟨a, ns, rfl, hS, hl, q⟩ := h
  have hl' : (ns.map V.int).length ≤ 63 := by simpa using hl
  refine ⟨.ref a, rfl, 63, rfl, a, ns.map V.int, rfl, hS, fun l1 n1 => ?_⟩
  rw [cut63 hl']
  have s1 : Same H (upd H l1 (.lst (ns.map V.int))) := same_new n1
  refine ⟨l1, rfl, ⟨_, SqL.of upd_same⟩, ?_⟩
  refine for_list (K := K) (a := l1) (xs := ns.map V.int) (fun i σ H' => ∃ (s : Int) (z : Option V), σ = [some (.ref a), some (.int s), z] ∧ 0 ≤ s ∧ s < 2147483647 ∧ Same H H' ∧ H' l1 = some (.lst (ns.map V.int)))
    ⟨9473, none, rfl, by decide, by decide, s1, upd_same⟩ (fun i σ H' _ ⟨_, _, _, _, _, _, k⟩ => SqL.of k) (fun i x σ H' hx ⟨s, z, e, s0, s9, sm, hL⟩ => ?_) (fun σ H' ⟨s, z, e, s0, s9, sm, hL⟩ => ?_)
  · subst e
    obtain ⟨m, hm, rfl⟩ : ∃ m, ns[i]? = some m ∧ x = V.int m := by
      rw [List.getElem?_map] at hx
      cases e : ns[i]? with
      | none => rw [e] at hx; cases hx
      | some m => rw [e] at hx; cases hx; exact ⟨m, rfl, rfl⟩
    refine ⟨_, rfl, s, 48271, rfl, rfl, .inl ⟨by omega, by omega⟩, _, rfl, m, 2147483629, rfl, rfl, (by show (0 : Int) < 2147483629; decide), _, _, rfl, rfl, _, 5, rfl, rfl, _, 2147483647, rfl, rfl, (by show (0 : Int) < 2147483647; decide), ?_⟩
    exact ⟨_, _, rfl, Int.emod_nonneg _ (by decide), Int.emod_lt_of_pos _ (by decide), sm, hL⟩
  · subst e
    refine ⟨.ref a, rfl, 63, rfl, a, ns.map V.int, rfl, sm.seq hS, fun l2 n2 => ?_⟩
    rw [cut63 hl']
    refine ⟨l2, ns.map V.int, rfl, .inl (SqL.of upd_same), fun l3 n3 => ?_⟩
    refine ⟨_, rfl, (by show 4 ≤ sizeLine; decide), fun p np => ?_⟩
    have npq : p ≠ l3 := fun e => by rw [e, upd_same] at np; cases np
    refine q _ p l3 s (((sm.trans (same_new n2)).trans (same_new n3)).trans (same_new np)) npq ?_ upd_same s0 s9
    rw [upd_ne (Ne.symm npq), upd_same]

/-! ### the law's own def -/
def spLaw (K : PySem.W.Frag) : Sp := fun vs H Q _ => ∃ (a : Addr) (ns : List Int), vs = [.ref a] ∧ SqL K H a (ns.map V.int) ∧ ns.length ≤ 63 ∧ ∀ H', Q (.bl true) H'
section
variable {P : Program} {w : World} {K : PySem.W.Frag} {mg : Str → Option Value} {base : Heap}
theorem dlaw_ok {x qual : Str} {st s0 : Stmt} {rest : List Stmt} {f : Addr} {fd : FuncData} {N ps : List Str} {k : Nat} (Fn : Fun K x qual st f fd) (S : FnScope N ps (defScope st)) (hps : ps.length = 1) (hN : 2 ≤ N.length) (hb : defBody st = s0 :: rest) {a : ASt}
    (h0 : ∀ (cdv : Value) (A : Around) (outer : List Env) (s : Shared) (H : Hp) (E : XK), Room k (A.deeper (PyProof.Rows.envOfC qual (defScope st) s.heap.objs.size f cdv)) →
      PS (cxOf CX0 P w K mg base N qual (defScope st) f cdv A outer s H E).nox s0 (tAsg (tCall (spBag K) [] E0 (tCons (tVar 0) tNil)) (gName 1)))
    (hbody : ∀ (cdv : Value) (A : Around) (outer : List Env) (s : Shared) (H : Hp) (E : XK), Room k (A.deeper (PyProof.Rows.envOfC qual (defScope st) s.heap.objs.size f cdv)) →
      DSs (cxOf CX0 P w K mg base N qual (defScope st) f cdv A outer s H E).nox rest a)
    (hsp : ∀ p, a { nx := fun _ => False, rt := fun d _ => d = .bl true } (none :: some (Lv.val (.bag p)) :: List.replicate (N.length - 2) none)) : FnOk P w K mg base CX0 (k + 1) f fd ps (spLaw K) := by
  refine Fn.ok S (fun vs H Q E ⟨a, ns, e, _⟩ => by rw [e, hps]; rfl) fun cdv A outer s H vs Q E hroom h => ?_
  obtain ⟨a, ns, rfl, hS, hl, hq⟩ := h
  rw [hb]
  refine ⟨_, pss_cons (h0 cdv A outer s H E hroom) (hbody cdv A outer s H E hroom).ps, ?_⟩
  refine ⟨.ref a, rfl, a, ns, rfl, hS, hl, fun H' p q s1 sm npq hq' hp' z0 z9 => ?_⟩
  have hbag : Rep ⟨fun b => if b = q then some (.lst (ns.map V.int)) else none, fun b => if b = p then some (BagI q ns.length) else none⟩ (.bag p) (.ref p) := rep_bag.mpr ⟨rfl, q, ns, if_pos rfl, hl, if_pos rfl⟩
  refine ⟨b0 _ H', ⟨fun b => if b = q then some (.lst (ns.map V.int)) else none, fun b => if b = p then some (BagI q ns.length) else none⟩, _, _, Wd.start _ H' (fun b o e => ?_) (fun b f e => ?_) (fun b o e => ?_), ?_, hsp p, ⟨?_, ?_, ?_, ?_⟩⟩
  · have e : (if b = q then some (.lst (ns.map V.int)) else none) = some o := e
    split at e
    next c => cases e; rw [c]; exact .inl hq'
    next => cases e
  · have e : (if b = p then some (BagI q ns.length) else none) = some f := e
    split at e
    next c => cases e; rw [c]; exact ⟨_, hp', 0, 0, s1, rfl, by omega, by omega, by omega, z0, z9⟩
    next => cases e
  · have e : (if b = q then some (.lst (ns.map V.int)) else none) = some o := e
    split at e
    next c => show (if b = p then some (BagI q ns.length) else none) = none; rw [if_neg (by rw [c]; exact Ne.symm npq)]
    next => cases e
  · refine ⟨fun j d e => ?_, fun j d e => ?_, fun j l d e b hjl h1 h2 => ?_, ?_⟩
    · match j, e with
      | 0, e => simp at e
      | 1, e =>
        simp only [List.getElem?_cons_succ, List.getElem?_cons_zero, Option.some.injEq, Lv.val.injEq] at e
        subst e
        refine ⟨.ref p, ?_, hbag⟩
        unfold L2.start
        simp only [List.map_cons, List.map_nil, List.cons_append, List.nil_append, List.length_cons, List.length_nil, List.set_cons_succ, List.getElem?_cons_succ]
        obtain ⟨m, hm⟩ : ∃ m, N.length - (0 + 1) = m + 1 := ⟨N.length - 2, by omega⟩
        rw [hm, List.replicate_succ, List.set_cons_zero]
        rfl
      | j + 2, e =>
        simp only [List.getElem?_cons_succ, List.getElem?_replicate] at e
        split at e <;> cases e
    · match j, e with
      | 0, e => simp at e
      | 1, e => simp at e
      | j + 2, e =>
        simp only [List.getElem?_cons_succ, List.getElem?_replicate] at e
        split at e <;> cases e
    · match j, h1 with
      | 0, h1 => simp at h1
      | 1, h1 => simp at h1
      | j + 2, h1 =>
        simp only [List.getElem?_cons_succ, List.getElem?_replicate] at h1
        split at h1 <;> cases h1
    · unfold L2.start
      simp only [List.length_cons, List.length_replicate, List.length_append, List.length_map, List.length_nil, List.length_set]
      omega
  · exact fun _ _ _ _ _ _ _ q' => False.elim q'
  · exact fun _ _ _ _ _ _ _ q' => False.elim q'
  · exact fun _ _ _ _ _ _ _ q' => False.elim q'
  · intro F2 H2 σ2 ρ2 d v _ _ _ hd e
    subst e
    rw [rep_bl.mp hd]
    exact hq H2
end
end DL

/-! The data layer, part W: short words for a printed text. -/
namespace DL
open PySem L2

theorem hu100 {A : Around} {k : Nat} (hr : Room k A) : A.units + 100 < cLine := by have := hr.un; omega
section
variable {X : Cx} {pos : Pos} {e e1 e2 : Expr} {a b : AE}
theorem dv (i : Nat) {x : Str} (hN : X.N[i]? = some x := by rfl) (hv : Vis X.env.scope x := by first | exact Or.inl rfl | exact Or.inr (Or.inl rfl) | exact Or.inr (Or.inr rfl)) (hd : (x == ("__debug__" : Str)) = false := by decide)
    (hcd : (x == ("__classdict__" : Str)) = false := by decide) : DE X (.Name x pos) (dVar i) := de_var hN hv hd hcd
theorem dix (i : Nat) (hu : X.A.units + 100 < cLine) {x : Str} {p1 : Pos} (h2 : DE X e b) (hN : X.N[i]? = some x := by rfl) (hv : Vis X.env.scope x := by first | exact Or.inl rfl | exact Or.inr (Or.inl rfl) | exact Or.inr (Or.inr rfl)) (hs : PlainIx e := by intro _ _; rfl) (hd : (x == ("__debug__" : Str)) = false := by decide)
    (hcd : (x == ("__classdict__" : Str)) = false := by decide) : DE X (.Subscript (.Name x p1) e pos) (dIxV i b) := de_ixV hN hv hu h2 hs hd hcd
theorem dgn (i : Nat) {x : Str} (nd : X.N.Nodup) (hi : X.N[i]? = some x := by rfl) (hx : Loc X.env.scope x := by first | exact .inl rfl | exact .inr rfl) (hf : X.fn x = true ∨ X.env.scope.names.lookup x = some .local := by first | exact .inl rfl | exact .inr rfl) :
    DG X [i] (.Name x pos) (gN i) := dg_name nd hi hx hf
theorem dset (i : Nat) {x : Str} {pos' : Pos} (nd : X.N.Nodup) (he : DE X e a) (hi : X.N[i]? = some x := by rfl) (hx : Loc X.env.scope x := by first | exact .inl rfl | exact .inr rfl) (hs : swapsWith e (some (.Name x pos')) pos.line X.env = pure false := by rfl)
    (hf : X.fn x = true ∨ X.env.scope.names.lookup x = some .local := by first | exact .inl rfl | exact .inr rfl) : DS X (.Assign [.Name x pos'] e pos) (dAsg a (gN i)) := ds_set nd hi hx he hs hf
theorem dput (i : Nat) (hu : X.A.units + 100 < cLine) {x : Str} {ev : Expr} {p1 p3 : Pos} (h1 : DE X e b) (h2 : DE X ev a) (hN : X.N[i]? = some x := by rfl) (hv : Vis X.env.scope x := by first | exact Or.inl rfl | exact Or.inr (Or.inl rfl) | exact Or.inr (Or.inr rfl))
    (hd : (x == ("__debug__" : Str)) = false := by decide) (hcd : (x == ("__classdict__" : Str)) = false := by decide)
    (ha : ∀ v, assign (.Subscript (.Name x p1) e p3) X.env v = (do
      let ov ← holding [v] (eval (.Name x p1) X.env)
      let iv ← holding [v, ov] (eval e X.env)
      standAt p3
      holding [v, ov, iv] (setItem ov iv v)
      release [v, ov, iv] []) := by intro _; rfl)
    (hs : swapsWithSole [.Subscript (.Name x p1) e p3] ev pos.line X.env = pure false := by rfl) (hw : swappedStores [.Subscript (.Name x p1) e p3] ev X.env = pure none := by rfl)
    (h3 : (assignEach [.Subscript (.Name x p1) e p3] X.env).map (·.2) = [assign (.Subscript (.Name x p1) e p3) X.env] := by rfl) : DS X (.Assign [.Subscript (.Name x p1) e p3] ev pos) (dPut i b a) :=
  ds_put hN hv hu h1 h2 hd hcd ha hs hw h3
def fNeg (x : DV) (Q : DV → Prop) : Prop := match x with
  | .int i => Q (.int (-i))
  | _ => False
def dNeg (a : AE) : AE := fun ρ Q => a ρ fun x ρ1 => fNeg x fun z => Q z ρ1
theorem de_neg (h : DE X e a) : DE X (.UnaryOp .USub e pos) (dNeg a) := by
  refine ⟨pe_imp (pe_un un_neg h.pe) fun σ H Q h => ?_⟩
  obtain ⟨B, F, ρ, Q', w, r, q, k⟩ := h
  refine ⟨B, F, ρ, _, w, r, q, fun F' H' ρ' d v w' x' r' hr q' => ?_⟩
  cases d <;> first | exact False.elim q' | skip
  rw [rep_int.mp hr]
  exact ⟨_, rfl, k F' H' ρ' _ _ w' x' r' (rep_int.mpr rfl) q'⟩
end

/-- a promise with its arity -/
def spN (n : Nat) (sp : DSp) : DSp := fun ds Q E => ds.length = n ∧ sp ds Q E
/-- a def of the text that has been proved: by its name -/
structure Cal (P : Program) (w : World) (K : PySem.W.Frag) (mg : Str → Option Value) (base : Heap) (x : Str) (k : Nat) (n : Nat) (sp : DSp) : Prop where
  ex : ∃ (f : Addr) (fd : FuncData) (ps : List Str), FnOk P w K mg base CX0 k f fd ps (spD (spN n sp)) ∧ mg x = some (.ref f) ∧ PySem.W.keepIn K (.ref f) = true ∧ Binds K fd ps [] ∧ ps.length = n
theorem Cal.imp {P : Program} {w : World} {K : PySem.W.Frag} {mg : Str → Option Value} {base : Heap} {x : Str} {k k' n : Nat} {sp sp' : DSp} (c : Cal P w K mg base x k n sp) (hk : k ≤ k') (h : ∀ ds Q E, sp' ds Q E → sp ds Q E) : Cal P w K mg base x k' n sp' := by
  obtain ⟨f, fd, ps, G, m, kp, b, hn⟩ := c.ex
  exact ⟨f, fd, ps, (G.mono hk).imp fun vs H Q E ⟨F, ds, Q', E', w0, r, s, q⟩ => ⟨F, ds, Q', E', w0, r, ⟨s.1, h _ _ _ s.2⟩, q⟩, m, kp, b, hn⟩
/-- a def as it stands, told by its name -/
structure Tx (K : PySem.W.Frag) (mg : Str → Option Value) (x : Str) (st : Stmt) : Prop where
  ex : ∃ (f : Addr) (fd : FuncData), Fun K x x st f fd ∧ mg x = some (.ref f)
section
variable {X : Cx} {pos p : Pos} {x : Str} {e : Expr} {es : List Expr} {t : AA} {k n : Nat} {sp : DSp}
theorem dcall (G : Cal X.prog X.w X.K X.mg X.base x k n sp) (hr : Room k X.A) (ha : DA X (e :: es) t) (hg : Gl X x := by rfl) (hdb : (x == ("__debug__" : Str)) = false := by decide) (he : starEach (e :: es) X.env = (false, eval e X.env) :: starEach es X.env := by rfl)
    (hpl : (backTo pos (starEach es X.env)).any (·.1) = false := by rfl) : DE X (.Call (.Name x p) (e :: es) [] pos) (dCall (spN n sp) noE [] t) := by
  obtain ⟨f, fd, ps, G, m, kp, b, hn⟩ := G.ex
  exact de_call G hr hg m kp b .nil (fun _ => Reps.nil) ha hdb he hpl
end
section
variable {P : Program} {w : World} {K : PySem.W.Frag} {mg : Str → Option Value} {base : Heap}
/-- arity 1 to 5: how the arguments bind -/
abbrev BindAs (st : Stmt) (x : Str) (ps : List Str) : Prop := ∀ (kV doc pm : Value) (an : Option Addr) (cdv ct : Value) (us : List Value), us.length = ps.length → bindArgs (PySem.W.fnOf x x (defArgs st) (defBody st) (defScope st) .none kV doc pm an cdv ct) ⟨us, []⟩ = pure (ps.zip us)
theorem dcal_ok {x : Str} {st : Stmt} {N ps : List Str} {k : Nat} {sp : DSp} (T : Tx K mg x st) (S : FnScope N ps (defScope st)) (hb : BindAs st x ps) {a : ASt}
    (hbody : ∀ (f : Addr) (cdv : Value) (A : Around) (outer : List Env) (s : Shared) (H : Hp) (E : XK), Room k (A.deeper (PyProof.Rows.envOfC x (defScope st) s.heap.objs.size f cdv)) →
      DSs (cxOf CX0 P w K mg base N x (defScope st) f cdv A outer s H E).nox (defBody st) a)
    (hsp : ∀ ds Q E, sp ds Q E → a { nx := fun _ => Q .non, rt := fun d _ => Q d } (startD N.length ds)) : Cal P w K mg base x (k + 1) ps.length sp := by
  obtain ⟨f, fd, F, m⟩ := T.ex
  exact ⟨f, fd, ps, dfn_ok F S (fun _ _ _ h => h.1) (hbody f) (fun ds Q E h => hsp ds Q E h.2), m, F.kp, F.binds hb, rfl⟩
theorem dcal_pull {x : Str} {st : Stmt} {N ps : List Str} {k : Nat} (T : Tx K mg x st) (S : FnScope N ps (defScope st)) (hb : BindAs st x ps) (hps : ps.length = 2) {a : ASt}
    (hbody : ∀ (f : Addr) (cdv : Value) (A : Around) (outer : List Env) (s : Shared) (H : Hp) (E : XK), Room k (A.deeper (PyProof.Rows.envOfC x (defScope st) s.heap.objs.size f cdv)) →
      DSs (cxOf CX0 P w K mg base N x (defScope st) f cdv A outer s H E).nox (defBody st) a)
    (hsp : ∀ (p q : Addr) (cs : List Int) (i c s n : Int) (Q : DV → Prop), cs.length ≤ 63 → BagOk cs.length i c s → 0 < n → n.natAbs.log2 < 9000 → (∀ k, 0 ≤ k → k < n → Q (.int k)) →
      a { nx := fun _ => False, rt := fun d ρ => Q d ∧ ∃ i c s, BagOk cs.length i c s ∧ ρ[0]? = some (some (Lv.own (bagC p q cs i c s))) }
        (some (Lv.own (bagC p q cs i c s)) :: some (Lv.val (.int n)) :: List.replicate (N.length - 2) none)) : Cal P w K mg base x (k + 1) 2 spPull := by
  obtain ⟨f, fd, F, m⟩ := T.ex
  exact ⟨f, fd, ps, (dpull_ok F S hps (hbody f) hsp).imp fun vs H Q E ⟨F, ds, Q', E', w0, r, s, q⟩ => ⟨F, ds, Q', E', w0, r, s.2, q⟩, m, F.kp, F.binds hb, hps⟩
end
end DL

/-! Promises of the laws' common defs, and what their readings lean on. -/
namespace DL
open PySem L2

theorem cal_none {P : Program} {w : World} {K : PySem.W.Frag} {mg : Str → Option Value} {base : Heap} {x : Str} {st : Stmt} {ps : List Str} {k : Nat} (T : Tx K mg x st) (hb : BindAs st x ps) : Cal P w K mg base x k ps.length (fun _ _ _ => False) := by
  obtain ⟨f, fd, F, m⟩ := T.ex
  exact ⟨f, fd, ps, ⟨fun vs H Q E ⟨_, _, _, _, _, _, s, _⟩ => False.elim s.2, fun _ _ _ _ _ _ _ _ _ _ _ _ _ ⟨_, _, _, _, _, _, s, _⟩ => False.elim s.2⟩, m, F.kp, F.binds hb, rfl⟩
theorem pull_go {p : Addr} {n : Int} {Q : DV → Prop} {E : ED} (h0 : 0 < n) (hl : n.natAbs.log2 < 9000) (hk : ∀ k, 0 ≤ k → k < n → Q (.int k)) : spN 2 spPull [.bag p, .int n] Q E := ⟨rfl, p, n, rfl, h0, hl, hk⟩
/-! ### numbers -/
theorem log_of {i : Int} {n : Nat} (h : i.natAbs < 2 ^ n) (h0 : 0 < n) : i.natAbs.log2 < n := PySem.Flt.log2_lt_of h0 h
theorem cmulW {i j : Int} (h1 : i.natAbs < 2 ^ 64) (h2 : j.natAbs < 2 ^ 64) : CMulW i j := by
  have := log_of h1 (by decide)
  have := log_of h2 (by decide)
  unfold CMulW
  omega
theorem cdivW {i j : Int} (h0 : 0 < j) (h2 : j.natAbs.log2 < 9000) : CDivW i j := ⟨h0, h2⟩
theorem lt_line {n : Nat} (h : n ≤ 1000000) : n ≤ sizeLine := by rw [sizeLine_eq]; omega
/-! ### of -/
def spOf : DSp := fun ds Q _ => ∃ p x, ds = [.bag p, x] ∧ match x with
  | .str z => 0 < z.length ∧ z.length ≤ sizeLine ∧ ∀ c ∈ z.cps.toList, Q (.str ⟨#[c]⟩)
  | .lst xs => xs ≠ [] ∧ xs.length ≤ sizeLine ∧ ∀ d ∈ xs, Q d
  | .tup xs => xs ≠ [] ∧ xs.length ≤ sizeLine ∧ ∀ d ∈ xs, Q d
  | _ => False
theorem line_log {n : Nat} (h : n ≤ sizeLine) : (n : Int).natAbs.log2 < 9000 := by
  refine Nat.lt_of_lt_of_le (log_of (n := 64) ?_ (by decide)) (by decide)
  rw [sizeLine_eq] at h
  have : (n : Int).natAbs = n := Int.natAbs_natCast n
  rw [this]
  exact Nat.lt_of_le_of_lt h (by decide)
theorem atI_mem {α : Type} {xs : List α} {k : Int} (h0 : 0 ≤ k) (h1 : k < xs.length) : ∃ x, atI xs k = some x ∧ x ∈ xs := by
  have hk : k.toNat < xs.length := by omega
  refine ⟨xs[k.toNat], ?_, List.getElem_mem hk⟩
  have := atI_nat (xs := xs) (j := k.toNat) (v := xs[k.toNat]) (List.getElem?_eq_getElem hk)
  rwa [Int.toNat_of_nonneg h0] at this
/-! ### texts -/
theorem str_join_len (y : Str) : ∀ ys : List Str, (Str.join y ys).length ≤ (ys.map Str.length).sum + ys.length * y.length
  | [] => by simp [Str.join]; rfl
  | [x] => by simp [Str.join]
  | x :: z :: r => by
    have ih := str_join_len y (z :: r)
    have e : (Str.join y (x :: z :: r)).length = x.length + y.length + (Str.join y (z :: r)).length := by
      show ((x ++ y) ++ Str.join y (z :: r)).cps.size = x.cps.size + y.cps.size + (Str.join y (z :: r)).cps.size
      show (((x.cps ++ y.cps) ++ (Str.join y (z :: r)).cps)).size = _
      rw [Array.size_append, Array.size_append]
    rw [e]
    simp only [List.map_cons, List.sum_cons, List.length_cons, Nat.add_mul] at ih ⊢
    omega
theorem join_len (y : Str) (ys : List Str) : (Txt.join y ys).length ≤ (ys.map Str.length).sum + ys.length * y.length := by
  rw [TL.join_eq]
  exact str_join_len y ys
theorem app_len (x y : Str) : (x ++ y).length = x.length + y.length := by
  show (x.cps ++ y.cps).size = x.cps.size + y.cps.size
  rw [Array.size_append]
/-! ### names -/
def letters : Str := "abcdefghijklmnopqrstuvwxyz"
def nameB (z : Str) : Bool := decide ((1 : Int) ≤ z.length) && (decide ((z.length : Int) ≤ 6) && z.cps.toList.all fun c => strIn ⟨#[c]⟩ letters)
def spIsName : DSp := fun ds Q _ => ∃ z, ds = [.str z] ∧ z.length ≤ sizeLine ∧ Q (.bl (nameB z))
theorem signs_len (z : Str) : (signs z).length = z.length := by
  unfold signs
  rw [List.length_map, Array.length_toList]
  rfl
theorem signs_all (z y : Str) : boolsD ((signs z).map fun d => match d with | .str i => DV.bl (strIn i y) | _ => .non) = some (z.cps.toList.map fun c => strIn ⟨#[c]⟩ y) := by
  unfold signs
  rw [List.map_map]
  exact boolsD_map (fun c => strIn ⟨#[c]⟩ y) _
/-! ### same -/
def plainD : Nat → DV → Prop
  | _, .non => True
  | _, .bl _ => True
  | _, .int _ => True
  | _, .str _ => True
  | d + 1, .tup xs => xs.length ≤ sizeLine ∧ ∀ x ∈ xs, plainD d x
  | d + 1, .lst xs => xs.length ≤ sizeLine ∧ ∀ x ∈ xs, plainD d x
  | _, _ => False
/-- only the question whether a thing is the same as itself -/
def spSame : Nat → DSp
  | 0 => fun _ _ _ => False
  | d + 1 => fun ds Q _ => ∃ x, ds = [x, x] ∧ plainD d x ∧ Q (.bl true)
theorem same_go {d : Nat} {x y : DV} {Q : DV → Prop} {E : ED} (e : x = y) (pl : plainD d x) (h : Q (.bl true)) : spN 2 (spSame (d + 1)) [x, y] Q E := by
  subst e
  exact ⟨rfl, x, rfl, pl, h⟩
theorem all_true {α : Type} (l : List α) : boolsD (l.map fun _ => DV.bl true) = some (l.map fun _ => true) := boolsD_map (fun _ => true) l
theorem all_true2 {α : Type} (l : List α) : (l.map fun _ => true).all id = true := by
  rw [List.all_map, List.all_eq_true]
  intros; rfl
/-! ### ints as data, comparisons with () and [] -/
theorem toPs_ints : ∀ ns : List Int, toPs (ns.map DV.int) = some (ns.map PyData.int)
  | [] => rfl
  | n :: ns => by simp [toPs, toP, toPs_ints ns]
theorem lay_ints : ∀ ns : List Int, PyData.canLayAll0 (ns.map PyData.int) = true
  | [] => rfl
  | n :: ns => by simp [PyData.canLayAll0, PyData.canLay0, lay_ints ns]
theorem dep_ints : ∀ ns : List Int, PyData.depthAll (ns.map PyData.int) = 0
  | [] => rfl
  | n :: ns => by simp [PyData.depthAll, PyData.depth, dep_ints ns]
theorem shaped_ints (ns : List Int) : SeqAt.shaped (.tuple (ns.map PyData.int)) = true := by
  simp [SeqAt.shaped, PyData.canLay0, PyData.depth, lay_ints, dep_ints]
theorem eqv_nil (ps : List PyData) : PyData.eqv (.tuple ps) (.tuple []) = ps.isEmpty := by
  cases ps <;> simp [PyData.eqv, PyData.eqvAll]
theorem eq_unit {ns : List Int} {Q : Bool → Prop} (h : Q ns.isEmpty) : fEqB (.tup (ns.map DV.int)) (.tup []) Q := by
  refine ⟨.tuple (ns.map PyData.int), .tuple [], ?_, rfl, shaped_ints ns, shaped_ints [], ?_⟩
  · simp [toP, toPs_ints]
  · rw [eqv_nil]
    cases ns <;> exact h
/-! ### [pull(bag, m) for k in range(n)] -/
theorem draws {b j n : Nat} {p : Addr} {m : Int} {ρ : DSt} {fin : List DV → DSt → Prop} (hb : b ≠ j) (h : ρ[b]? = some (some (Lv.val (.bag p)))) (hm : 0 < m) (hl : m.natAbs.log2 < 9000) (hw : wipeD ρ [j] = ρ)
    (hf : ∀ ns : List Int, ns.length = n → (∀ x ∈ ns, 0 ≤ x ∧ x < m) → fin (ns.map DV.int) ρ) :
    dLcW (gN j) dYes (dCall (spN 2 spPull) noE [] (dCons (dVar b) (dCons (dC (.int m)) dNil))) [j] fin (rangeD 0 n) [] ρ := by
  refine dLcW_ind (fun ds acc ρ' => ρ' = ρ ∧ ∃ ns : List Int, acc = ns.map DV.int ∧ (∀ x ∈ ns, 0 ≤ x ∧ x < m) ∧ ns.length + ds.length = n) ⟨rfl, [], rfl, by simp, by simp [rangeD]⟩ ?_ ?_
  · rintro acc ρ' ⟨rfl, ns, rfl, h1, h2⟩
    exact hf ns (by simpa using h2) h1
  · rintro d r acc ρ' W hW ⟨rfl, ns, rfl, h1, h2⟩
    have e : (ρ'.set j (some (Lv.val d)))[b]? = some (some (Lv.val (.bag p))) := by rw [List.getElem?_set_ne (Ne.symm hb)]; exact h
    have e2 : wipeD (ρ'.set j (some (Lv.val d))) [j] = ρ' := by
      have hw : ρ'.set j none = ρ' := hw
      show (ρ'.set j (some (Lv.val d))).set j none = ρ'
      rw [List.set_set]; exact hw
    show dVar b (ρ'.set j (some (Lv.val d))) _
    unfold dVar
    rw [e]
    refine pull_go hm hl fun k k0 k9 => ?_
    show W _ (wipeD (ρ'.set j (some (Lv.val d))) [j])
    rw [e2]
    refine hW _ _ ⟨rfl, ns ++ [k], by simp, ?_, by simp at h2 ⊢; omega⟩
    intro x hx
    rcases List.mem_append.mp hx with hx | hx
    · exact h1 x hx
    · rw [List.mem_singleton.mp hx]; exact ⟨k0, k9⟩
end DL

/-! The data layer, part J: more targets, ranges as lists, own lists and dicts made, methods of own lists, f-strings. -/
namespace DL
open PySem L2

/-- a walk by a word of the state; what follows is a name of its own within the body -/
theorem dWalk_by {g : AG} {t : ASt} {K : DEnds} (I : List DV → DSt → Prop) {ds : List DV} {ρ : DSt} (h0 : I ds ρ) (hn : ∀ ρ, I [] ρ → K.nx ρ)
    (hc : ∀ (d : DV) (r : List DV) (ρ : DSt) (K' : DEnds), (∀ ρ', I r ρ' → K'.nx ρ') → (∀ ρ', I r ρ' → K'.ct ρ') → (∀ ρ', K.nx ρ' → K'.bk ρ') → (∀ x ρ', K.rt x ρ' → K'.rt x ρ') → I (d :: r) ρ → g d ρ fun ρ1 => t K' ρ1) : dWalk g t K ds ρ :=
  dWalk_ind I h0 hn fun d r ρ W hW h => hc d r ρ { nx := W, rt := K.rt, bk := K.nx, ct := W } hW hW (fun _ q => q) (fun _ _ q => q) h
section
variable {X : Cx} {pos : Pos} {e : Expr} {a : AE} {t : AA} {es : List Expr} {js : List Nat}
/-! ### targets: a tuple or a list; three names -/
def gTl (n : Nat) (u : AGs) : AG := fun d ρ Q => match d with
  | .tup ds => ds.length = n ∧ u ds ρ Q
  | .lst ds => ds.length = n ∧ u ds ρ Q
  | _ => False
theorem dg_tl {k : Nat} {u : AGs} {n : Nat} (hc : X.calm = true) (h : DGs X js es u)
    (hn : (assignEach es X.env).length = n := by rfl) (hst : (assignEach es X.env).findIdx? (·.1) = none := by rfl) : DG X js (.Tuple es k pos) (gTl n u) := by
  refine ⟨⟨fun pins s σ H v uu Q I r hw => ?_⟩⟩
  obtain ⟨B, F, ρ, d, Q', w, r0, hr, q, k⟩ := hw
  cases d with
  | tup ds =>
    obtain ⟨p, vs, rfl, f, hs⟩ := rep_tup.mp hr
    exact (pg_tup hc h.pg hn hst).run pins s σ H _ uu Q I r ⟨p, vs, rfl, SqT.of (w.sqT (K := X.K) f), by rw [← hs.length]; exact q.1, B, F, ρ, ds, Q', w, r0, hs, q.2, k⟩
  | lst ds =>
    obtain ⟨p, vs, rfl, f, hs⟩ := rep_lst.mp hr
    exact (pg_lst hc h.pg hn hst).run pins s σ H _ uu Q I r ⟨p, vs, rfl, SqL.of (w.sqL (K := X.K) f), by rw [← hs.length]; exact q.1, B, F, ρ, ds, Q', w, r0, hs, q.2, k⟩
  | _ => exact False.elim q
def dPar3 (i j l : Nat) (t : AA) : ASt := fun K ρ => t ρ fun ds ρ1 => match ds with
  | [x, y, z] => K.nx (((ρ1.set i (some (Lv.val x))).set j (some (Lv.val y))).set l (some (Lv.val z)))
  | _ => False
theorem ds_par3 {i j l : Nat} {x y z : Str} {e1 e2 e3 : Expr} {px py pz pt : Pos} {kt k2 pt2} (hc : X.calm = true) (hN : X.N.Nodup) (hi : X.N[i]? = some x) (hj : X.N[j]? = some y) (hl : X.N[l]? = some z) (hij : i ≠ j) (hil : i ≠ l) (hjl : j ≠ l)
    (hx : X.env.scope.names.lookup x = some .local) (hy : X.env.scope.names.lookup y = some .local) (hz : X.env.scope.names.lookup z = some .local) (ha : DA X [e1, e2, e3] t)
    (hw : swappedStores [.Tuple [.Name x px, .Name y py, .Name z pz] kt pt] (.Tuple [e1, e2, e3] k2 pt2) X.env = pure (some [x, y, z]))
    (hs : swapsWithSole [.Tuple [.Name x px, .Name y py, .Name z pz] kt pt] (.Tuple [e1, e2, e3] k2 pt2) pos.line X.env = pure false := by rfl) :
    DS X (.Assign [.Tuple [.Name x px, .Name y py, .Name z pz] kt pt] (.Tuple [e1, e2, e3] k2 pt2) pos) (dPar3 i j l t) := by
  refine ⟨ps_imp (ps_par3 hc hN hi hj hl hij hil hjl hx hy hz ha.pa hw hs) fun D σ H h => ?_⟩
  obtain ⟨B, F, ρ, K, w, r, q, k⟩ := h
  refine ⟨B, F, ρ, _, w, r, q, fun F' H' ρ' ds vs w' x' r' hr q' => ?_⟩
  match ds, q' with
  | [d1, d2, d3], q' =>
    obtain ⟨v1, vs, rfl, h1, hr⟩ := reps_cons.mp hr
    obtain ⟨v2, vs, rfl, h2, hr⟩ := reps_cons.mp hr
    obtain ⟨v3, vs, rfl, h3, hr⟩ := reps_cons.mp hr
    rw [reps_nil.mp hr]
    exact ⟨v1, v2, v3, rfl, k.nx F' H' _ _ w' x' (((r'.put' i h1).put' j h2).put' l h3) q'⟩

def fAddI (x y : DV) (Q : DV → Prop) : Prop := match x, y with
  | .int i, .int j => Q (.int (i + j))
  | _, _ => False
theorem od_addI : OpD (rI0 fun i j => .int (i + j)) fAddI := by
  intro B F H x y dx dy Q Q' w hx hy h k
  cases dx <;> cases dy <;> first | exact False.elim h | skip
  rw [rep_int.mp hx, rep_int.mp hy]; exact ⟨_, _, rfl, rfl, k F H _ _ (Stp.refl w) (rep_int.mpr rfl) h⟩
/-! ### list(range(..)) -/
theorem reps_range {F : Wo} (lo : Int) (n : Nat) : Reps F (rangeD lo n) ((List.range n).map fun i => V.int (lo + (i : Nat))) := by
  have e1 : rangeD lo n = ((List.range n).map fun i => lo + ((i : Nat) : Int)).map DV.int := by simp [rangeD]
  have e2 : ((List.range n).map fun i => V.int (lo + (i : Nat))) = ((List.range n).map fun i => lo + ((i : Nat) : Int)).map V.int := by simp
  rw [e1, e2]
  exact ints_reps _
theorem range_len (lo : Int) (n : Nat) : (rangeD lo n).length = n := by unfold rangeD; rw [List.length_map, List.length_range]
theorem range_line {lo : Int} {n : Nat} (h : n ≤ 1000) : (rangeD lo n).length ≤ sizeLine := by
  rw [range_len, sizeLine_eq]; omega
theorem app_line {xs ys : List DV} (n m : Nat) (h1 : xs.length = n) (h2 : ys.length = m) (h : n + m ≤ 1000) : xs.length + ys.length ≤ sizeLine := by
  rw [h1, h2, sizeLine_eq]; omega
def dLRg1 (a : AE) : AE := fun ρ Q => a ρ fun d ρ1 => match d with
  | .int n => RgOk 0 n ∧ Q (.lst (rangeD 0 (n - 0).toNat)) ρ1
  | _ => False
theorem de_lrg1 {p p2 pos2 : Pos} (hc : X.calm = true) (hg : Gl X "list") (hm : X.mg "list" = none) (hg2 : Gl X "range") (hm2 : X.mg "range" = none) (ha : DE X e a) (na : starEach [e] X.env = (false, eval e X.env) :: starEach [] X.env := by rfl)
    (na2 : starEach [(.Call (.Name "range" p) [e] [] pos)] X.env = (false, eval (.Call (.Name "range" p) [e] [] pos) X.env) :: starEach [] X.env := by rfl) : DE X (.Call (.Name "list" p2) [.Call (.Name "range" p) [e] [] pos] [] pos2) (dLRg1 a) := by
  refine ⟨pe_imp (pe_listRg hc hg hm (prg_1 hg2 hm2 ha.pe na) na2) fun σ H Q h => ?_⟩
  obtain ⟨B, F, ρ, Q', w, r, q, k⟩ := h
  refine ⟨B, F, ρ, _, w, r, q, fun F' H' ρ' d v w' x' r' hr q' => ?_⟩
  cases d with
  | int n =>
    rw [rep_int.mp hr]
    refine ⟨n, rfl, q'.1, fun p hp => ?_⟩
    obtain ⟨s, hr⟩ := Stp.lstN w' hp (reps_range (F := F') 0 (n - 0).toNat)
    exact k _ _ ρ' _ _ s.wd (x'.trans s.ext) (s.st _ _ r') hr q'.2
  | _ => exact False.elim q'

/-! ### what is made for a local to keep -/
def tDN (a : AE) : TE := fun σ H Q => ∃ B F ρ Q', Wd B F H ∧ RSt B F ρ σ H ∧ a ρ Q' ∧
  ∀ F' H' ρ' d p, Wd B F' H' → Ext F F' → RSt B F' ρ' σ H' → OwnAt F' H' p d → (B.H p = none ∧ F'.fz p = none ∧ F'.ce p = none ∧ B.L p = none) → (∀ (j : Nat) (e : DV), ρ'[j]? = some (some (Lv.own e)) → σ[j]? ≠ some (some (.ref p))) → Q' d ρ' → Q (.ref p) H'
structure DN (X : Cx) (e : Expr) (a : AE) : Prop where
  pe : PE X e (tDN a)
def dOwn (i : Nat) (a : AE) : ASt := fun K ρ => a ρ fun d ρ1 => i < ρ1.length ∧ K.nx (ρ1.set i (some (Lv.own d)))
theorem dson (i : Nat) {x : Str} {pos' : Pos} (nd : X.N.Nodup) (he : DN X e a) (hi : X.N[i]? = some x := by rfl) (hx : Loc X.env.scope x := by first | exact .inl rfl | exact .inr rfl) (hs : swapsWith e (some (.Name x pos')) pos.line X.env = pure false := by rfl)
    (hf : X.fn x = true ∨ X.env.scope.names.lookup x = some .local := by first | exact .inl rfl | exact .inr rfl) : DS X (.Assign [.Name x pos'] e pos) (dOwn i a) := by
  refine ⟨ps_imp (ps_set nd hi hx he.pe hs hf) fun D σ H h => ?_⟩
  obtain ⟨B, F, ρ, K, w, r, q, k⟩ := h
  refine ⟨B, F, ρ, _, w, r, q, fun F' H' ρ' d p w' x' r' ho ⟨b0, n1, n2, n3⟩ hd ⟨hl, q'⟩ => ?_⟩
  exact k.nx F' H' _ _ w' x' (r'.putOwn hl ho b0 n1 n2 n3 (fun j e _ he => hd j e he)) q'
/-- a new loose object beside the locals -/
theorem own_new {B : Bs} {F : Wo} {H : Hp} {p : Addr} {o : HO} {ρ : DSt} {σ : St} (w : Wd B F H) (r : RSt B F ρ σ H) (hp : H p = none) :
    (B.H p = none ∧ F.fz p = none ∧ F.ce p = none ∧ B.L p = none) ∧ (∀ (j : Nat) (e : DV), ρ[j]? = some (some (Lv.own e)) → σ[j]? ≠ some (some (.ref p))) := by
  refine ⟨⟨w.new hp, w.nf hp, w.nc hp, w.nl hp⟩, fun j e he z => ?_⟩
  obtain ⟨q, hs, ho, _⟩ := r.own j e he
  rw [hs] at z
  cases z
  obtain ⟨u, hu⟩ := ho.there
  rw [hp] at hu; cases hu
theorem dn_lst (h : DA X es t) : DN X (.List es pos) (dLst t) := by
  refine ⟨pe_imp (pe_lst h.pa) fun σ H Q h => ?_⟩
  obtain ⟨B, F, ρ, Q', w, r, q, k⟩ := h
  refine ⟨B, F, ρ, _, w, r, q, fun F1 H1 ρ1 ds vs w1 x1 r1 hs q1 => ⟨by rw [← hs.length]; exact q1.1, fun p hp => ?_⟩⟩
  have s := w1.loose (o := .lst vs) hp
  obtain ⟨lo, dj⟩ := own_new (o := .lst vs) w1 r1 hp
  exact k _ _ ρ1 (.lst ds) p s.wd x1 (s.st _ _ r1) ⟨vs, upd_same, hs⟩ lo dj q1.2
def dDic0 : AE := fun ρ Q => Q (.dic [] []) ρ
theorem dn_dic0 : DN X (.Dict [] [] pos) dDic0 := by
  refine ⟨pe_imp pe_dnewK fun σ H Q h => ?_⟩
  obtain ⟨B, F, ρ, Q', w, r, q, k⟩ := h
  intro p hp
  have s := w.loose (o := .dK []) hp
  obtain ⟨lo, dj⟩ := own_new (o := .dK []) w r hp
  exact k _ _ ρ (.dic [] []) p s.wd (Ext.refl F) (s.st _ _ r) ⟨[], upd_same, rfl, Reps.nil⟩ lo dj q
theorem de_dic0 : DE X (.Dict [] [] pos) dDic0 := by
  refine ⟨pe_imp pe_dnewK fun σ H Q h => ?_⟩
  obtain ⟨B, F, ρ, Q', w, r, q, k⟩ := h
  intro p hp
  have s := w.lay (o := .dK []) hp
  exact k _ _ ρ (.dic [] []) _ s.wd s.ext (s.st _ _ r) (rep_dic.mpr ⟨p, [], rfl, Wo.add_same, rfl, Reps.nil⟩) q
/-- list(x), dict(x) -/
def fNew (x : List DV) (Q : DV → Prop) : Prop := fList x Q
def dClN (f : List DV → (DV → Prop) → Prop) (t : AA) : AE := fun ρ Q => t ρ fun xs ρ1 => f xs fun z => Q z ρ1
theorem dn_list {x : Str} {p : Pos} (hc : X.calm = true) (hg : Gl X x) (hm : X.mg x = none) (hv : bootBuiltins x = some (.type "list")) (ha : DA X (e :: es) t) (hn : x ≠ "__name__" := by decide) (hdb : (x == ("__debug__" : Str)) = false := by decide)
    (he : starEach (e :: es) X.env = (false, eval e X.env) :: starEach es X.env := by rfl) (hpl : (backTo pos (starEach es X.env)).any (·.1) = false := by rfl) : DN X (.Call (.Name x p) (e :: es) [] pos) (dClN fList t) := by
  refine ⟨pe_imp (pe_callTy (co_list hc) hg hm hv ha.pa hn hdb he hpl) fun σ H Q h => ?_⟩
  obtain ⟨B, F, ρ, Q', w, r, q, k⟩ := h
  refine ⟨B, F, ρ, _, w, r, q, fun F1 H1 ρ1 ds vs w1 x1 r1 hs q1 => ?_⟩
  match ds, q1 with
  | [.lst es], q1 =>
    obtain ⟨v, rr, rfl, hv, hr⟩ := reps_cons.mp hs
    obtain ⟨p, vs, rfl, f, q⟩ := rep_lst.mp hv
    rw [reps_nil.mp hr]
    refine .inl ⟨p, vs, rfl, .inl (SqL.of (w1.sqL (K := X.K) f)), fun l hl => ?_⟩
    have s := w1.loose (o := .lst vs) hl
    obtain ⟨lo, dj⟩ := own_new (o := .lst vs) w1 r1 hl
    exact k _ _ ρ1 (.lst es) l s.wd x1 (s.st _ _ r1) ⟨vs, upd_same, q⟩ lo dj q1
  | [.tup es], q1 =>
    obtain ⟨v, rr, rfl, hv, hr⟩ := reps_cons.mp hs
    obtain ⟨p, vs, rfl, f, q⟩ := rep_tup.mp hv
    rw [reps_nil.mp hr]
    refine .inl ⟨p, vs, rfl, .inr (SqT.of (w1.sqT (K := X.K) f)), fun l hl => ?_⟩
    have s := w1.loose (o := .lst vs) hl
    obtain ⟨lo, dj⟩ := own_new (o := .lst vs) w1 r1 hl
    exact k _ _ ρ1 (.lst es) l s.wd x1 (s.st _ _ r1) ⟨vs, upd_same, q⟩ lo dj q1
  | [.dic ks es], q1 =>
    obtain ⟨v, rr, rfl, hv, hr⟩ := reps_cons.mp hs
    obtain ⟨p, kvs, rfl, f, e, q⟩ := rep_dic.mp hv
    rw [reps_nil.mp hr]
    refine .inr ⟨p, kvs, rfl, w1.rdD f, fun l hl => ?_⟩
    subst e
    have s := w1.loose (o := .lst (kvs.map fun kv => kV kv.1)) hl
    obtain ⟨lo, dj⟩ := own_new (o := .lst (kvs.map fun kv => kV kv.1)) w1 r1 hl
    exact k _ _ ρ1 (.lst _) l s.wd x1 (s.st _ _ r1) ⟨_, upd_same, reps_keys kvs⟩ lo dj q1
def fDict (ds : List DV) (Q : DV → Prop) : Prop := match ds with
  | [.dic ks vs] => Q (.dic ks vs)
  | _ => False
theorem dn_dict {x : Str} {p : Pos} (hg : Gl X x) (hm : X.mg x = none) (hv : bootBuiltins x = some (.type "dict")) (ha : DA X (e :: es) t) (hn : x ≠ "__name__" := by decide) (hdb : (x == ("__debug__" : Str)) = false := by decide)
    (he : starEach (e :: es) X.env = (false, eval e X.env) :: starEach es X.env := by rfl) (hpl : (backTo pos (starEach es X.env)).any (·.1) = false := by rfl) : DN X (.Call (.Name x p) (e :: es) [] pos) (dClN fDict t) := by
  refine ⟨pe_imp (pe_callTy call_dictD hg hm hv ha.pa hn hdb he hpl) fun σ H Q h => ?_⟩
  obtain ⟨B, F, ρ, Q', w, r, q, k⟩ := h
  refine ⟨B, F, ρ, _, w, r, q, fun F1 H1 ρ1 ds vs w1 x1 r1 hs q1 => ?_⟩
  match ds, q1 with
  | [.dic ks es], q1 =>
    obtain ⟨v, rr, rfl, hv, hr⟩ := reps_cons.mp hs
    obtain ⟨p, kvs, rfl, f, e, q⟩ := rep_dic.mp hv
    rw [reps_nil.mp hr]
    refine ⟨p, kvs, rfl, w1.rdD f, fun l hl => ?_⟩
    have s := w1.loose (o := .dK kvs) hl
    obtain ⟨lo, dj⟩ := own_new (o := .dK kvs) w1 r1 hl
    exact k _ _ ρ1 (.dic ks es) l s.wd x1 (s.st _ _ r1) ⟨kvs, upd_same, e, q⟩ lo dj q1
theorem cd_dict : ClD (fun xs H Q => ∃ (a : Addr) (kvs : List (Key × V)), xs = [.ref a] ∧ Rd H a (.dK kvs) ∧ ∀ p, H p = none → Q (.ref p) (upd H p (.dK kvs))) fDict := by
  intro B F H xs ds Q Q' w hs h k
  match ds, h with
  | [.dic ks es], h =>
    obtain ⟨v, r, rfl, hv, hr⟩ := reps_cons.mp hs
    obtain ⟨p, kvs, rfl, f, e, q⟩ := rep_dic.mp hv
    rw [reps_nil.mp hr]
    refine ⟨p, kvs, rfl, w.rdD f, fun l hl => ?_⟩
    have s := w.lay (o := .dK kvs) hl
    exact k _ _ _ _ s (rep_dic.mpr ⟨l, kvs, rfl, Wo.add_same, e, q.mono s.ext⟩) h

/-! ### methods of an own list -/
def fApp (d y : DV) (Q : DV → Prop) : Prop := match d with
  | .lst ds => ds.length < sizeLine ∧ Q (.lst (ds ++ [y]))
  | _ => False
def fExt (d y : DV) (Q : DV → Prop) : Prop := match d, y with
  | .lst ds, .lst es => ds.length + es.length ≤ sizeLine ∧ Q (.lst (ds ++ es))
  | _, _ => False
def IsLo (ρ : DSt) (i : Nat) : Prop := ∃ ds, ρ[i]? = some (some (Lv.own (.lst ds)))
/-- x.append(e), x.extend(e) -/
def dMut (i : Nat) (f : DV → DV → (DV → Prop) → Prop) (a : AE) : ASt := fun K ρ => IsLo ρ i ∧ a ρ fun y ρ1 => ownS ρ1 i fun d => f d y fun d' => K.nx (ρ1.set i (some (Lv.own d')))
/-- what a method does to an own list -/
def MuD (r : V → List V → Hp → VK → Prop) (f : DV → DV → (DV → Prop) → Prop) : Prop := ∀ (B : Bs) (F : Wo) (H : Hp) (p : Addr) (y : V) (d dy : DV) (Q : VK) (Q' : DV → Prop), Wd B F H → OwnAt F H p d → Rep F dy y → f d dy Q' →
  (∀ d' o, OwnAt F (upd H p o) p d' → Q' d' → Q .non (upd H p o)) → r (.ref p) [y] H Q
theorem mu_app : MuD rAppend fApp := by
  intro B F H p y d dy Q Q' w ho hy h k
  cases d with
  | lst ds =>
    obtain ⟨vs, hp, hr⟩ := ho
    exact ⟨p, vs, y, rfl, rfl, hp, by rw [← hr.length]; exact h.1, k (.lst _) _ ⟨_, upd_same, hr.append (Reps.cons hy Reps.nil)⟩ h.2⟩
  | _ => exact False.elim h
theorem mu_ext : MuD rExtend fExt := by
  intro B F H p y d dy Q Q' w ho hy h k
  cases d with
  | lst ds =>
    cases dy with
    | lst es =>
      obtain ⟨vs, hp, hr⟩ := ho
      obtain ⟨b, ws, rfl, fb, hb⟩ := rep_lst.mp hy
      exact ⟨p, b, vs, ws, rfl, rfl, hp, w.sqL (K := default) fb, by rw [← hr.length, ← hb.length]; exact h.1, k (.lst _) _ ⟨_, upd_same, hr.append hb⟩ h.2⟩
    | _ => exact False.elim h
  | _ => exact False.elim h
variable {x name : Str} {p1 apos cpos : Pos} {id : String} {r : V → List V → Hp → VK → Prop} {f : DV → DV → (DV → Prop) → Prop}
theorem ds_mut (i : Nat) (slot : PySem.Slot "list" name id) (hty : typeOf (.builtin id) = pure (.type "method_descriptor")) (hm : MtR X id r) (mu : MuD r f) (ha : DE X e a)
    (hN : X.N[i]? = some x := by rfl) (hv : Vis X.env.scope x := by first | exact Or.inl rfl | exact Or.inr (Or.inl rfl) | exact Or.inr (Or.inr rfl)) (hd : (x == ("__debug__" : Str)) = false := by decide) (hcd : (x == ("__classdict__" : Str)) = false := by decide)
    (hbase : attributeBase (.Name x p1) name X.env (eval (.Name x p1) X.env) = eval (.Name x p1) X.env := by rfl)
    (hfew : ((backTo cpos (starEach (e :: []) X.env)).all (fun x => !x.1) && (backToKw cpos (keywordEach [] X.env)).all (fun x => x.1.isSome)
      && decide ((e :: []).length + ([] : List Keyword).length + (if ([] : List Keyword).isEmpty then 0 else 1) < 30)) = true := by rfl)
    (hline : (apos.endLine == cpos.line) = true := by rfl) (hs : starEach (e :: []) X.env = (false, eval e X.env) :: starEach [] X.env := by rfl) (hplain : (backTo cpos (starEach [] X.env)).any (·.1) = false := by rfl)
    (hsw : swapsWith (.Call (.Attribute (.Name x p1) name apos) [e] [] cpos) none pos.line X.env = pure false := by rfl) :
    DS X (.Expr (.Call (.Attribute (.Name x p1) name apos) [e] [] cpos) pos) (dMut i f a) := by
  refine ⟨ps_imp (ps_expr (pe_bm PySem.F.plainAttrs_list slot hty hm (pe_var hN hv hd hcd) (da_cons ha da_nil hs).pa hbase hfew hline hs hplain) hsw) fun D σ H h => ?_⟩
  obtain ⟨B, F, ρ, K, w, r0, ⟨⟨ds0, e0⟩, q⟩, k⟩ := h
  obtain ⟨p, hs, ⟨vs0, hp0, _⟩, _⟩ := r0.own i _ e0
  refine ⟨_, hs, .inl ⟨rfl, vs0, SqL.of hp0⟩, B, F, ρ, (fun zs ρ1 => match zs with | [y] => (ownS ρ1 i fun d => f d y fun d' => K.nx (ρ1.set i (some (Lv.own d')))) | _ => False), w, r0, q, fun F1 H1 ρ1 zs vs w1 x1 r1 hz q1 => ?_⟩
  obtain ⟨y, rfl⟩ : ∃ y, zs = [y] := by
    match zs, q1 with
    | [y], _ => exact ⟨y, rfl⟩
  have q1 : ownS ρ1 i fun d => f d y fun d' => K.nx (ρ1.set i (some (Lv.own d'))) := q1
  obtain ⟨v, rr, rfl, hy, hr⟩ := reps_cons.mp hz
  rw [reps_nil.mp hr]
  unfold ownS at q1
  split at q1
  next d e1 =>
    obtain ⟨p', hs', ho, _⟩ := r1.own i d e1
    rw [hs] at hs'; cases hs'
    refine mu B F1 H1 p v d y _ _ w1 ho hy q1 fun d' o ho' q2 => ?_
    obtain ⟨w3, r3⟩ := r1.turn w1 (d' := d') e1 hs ho'
    exact k.nx F1 _ σ _ w3 x1 r3 q2
  next => exact False.elim q1
end
end DL

namespace DL
open PySem L2
def topS (i : Nat) : Stmt := PySem.Challenge.pw_sunderow_k41_indices_of_a_result.main.body.getD i (.Pass ⟨0, 0, 0, 0⟩)
/-! ### what index_at answers -/
def getI (xs : List Int) (i : Int) : DV := .int (xs.getD i.toNat 0)
def idxV (hd bl px cy : List Int) (r pl : Int) : DV :=
  if pl < hd.length then getI hd pl
  else if pl - hd.length < bl.length * r then getI bl ((pl - hd.length) % bl.length)
  else if pl - hd.length - bl.length * r < px.length then getI px (pl - hd.length - bl.length * r)
  else if cy.isEmpty = true then .non
  else getI cy ((pl - hd.length - bl.length * r - px.length) % cy.length)
def spIndexAt : DSp := fun ds Q _ => ∃ (pos : DV) (hd bl px cy : List Int) (r pl : Int), ds = [.tup [pos, .tup (hd.map DV.int), .tup (bl.map DV.int), .int r, .tup (px.map DV.int), .tup (cy.map DV.int)], .int pl] ∧
  0 ≤ pl ∧ 0 ≤ r ∧ r.natAbs.log2 < 1000 ∧ bl.length ≤ 1000 ∧ Q (idxV hd bl px cy r pl)
theorem getI_at {xs : List Int} {i : Int} (h0 : 0 ≤ i) (h1 : i < xs.length) : atI (xs.map DV.int) i = some (getI xs i) := by
  have hk : i.toNat < xs.length := by omega
  have e : (xs.map DV.int)[i.toNat]? = some (getI xs i) := by
    rw [List.getElem?_map, List.getElem?_eq_getElem hk]
    unfold getI
    rw [List.getD_eq_getElem?_getD, List.getElem?_eq_getElem hk]
    rfl
  have := atI_nat e
  rwa [Int.toNat_of_nonneg h0] at this
theorem cmul_len {n : Nat} {r : Int} (h : n ≤ 1000) (h2 : r.natAbs.log2 < 1000) : CMulW (n : Int) r := by
  have := log_of (i := (n : Int)) (n := 64) (by omega) (by decide)
  unfold CMulW
  omega
theorem len_map (xs : List Int) : (xs.map DV.int).length = xs.length := List.length_map ..

abbrev sindex_at : Stmt := topS 1
theorem scindex_at : FnScope ["result", "place", "position", "head", "block", "repeat", "prefix", "cycle"] ["result", "place"] (defScope sindex_at) := ⟨rfl, rfl, rfl, by decide +kernel, rfl, by decide +kernel, by decide +kernel⟩
theorem biindex_at : BindAs sindex_at "index_at" ["result", "place"] := fun _ _ _ _ _ _ us hl => match us, hl with | [_, _], _ => rfl
abbrev s_law_bag : Stmt := topS 3
theorem sc_law_bag : FnScope ["_law_script", "_law_salt", "_law_cell"] ["_law_script"] (defScope s_law_bag) := ⟨rfl, rfl, rfl, by decide +kernel, rfl, by decide +kernel, by decide +kernel⟩
theorem bi_law_bag : BindAs s_law_bag "_law_bag" ["_law_script"] := fun _ _ _ _ _ _ us hl => match us, hl with | [_], _ => rfl
abbrev s_law_pull : Stmt := topS 4
theorem sc_law_pull : FnScope ["_law_bag_here", "_law_count", "_law_cell", "_law_digit", "_law_mixed"] ["_law_bag_here", "_law_count"] (defScope s_law_pull) := ⟨rfl, rfl, rfl, by decide +kernel, rfl, by decide +kernel, by decide +kernel⟩
theorem bi_law_pull : BindAs s_law_pull "_law_pull" ["_law_bag_here", "_law_count"] := fun _ _ _ _ _ _ us hl => match us, hl with | [_, _], _ => rfl
abbrev s_law_of : Stmt := topS 5
theorem sc_law_of : FnScope ["_law_bag_here", "_law_items"] ["_law_bag_here", "_law_items"] (defScope s_law_of) := ⟨rfl, rfl, rfl, by decide +kernel, rfl, by decide +kernel, by decide +kernel⟩
theorem bi_law_of : BindAs s_law_of "_law_of" ["_law_bag_here", "_law_items"] := fun _ _ _ _ _ _ us hl => match us, hl with | [_, _], _ => rfl
abbrev s_law_same : Stmt := topS 6
theorem sc_law_same : FnScope ["_law_found", "_law_due", "_law_key", "_law_k"] ["_law_found", "_law_due"] (defScope s_law_same) := ⟨rfl, rfl, rfl, by decide +kernel, rfl, by decide +kernel, by decide +kernel⟩
theorem bi_law_same : BindAs s_law_same "_law_same" ["_law_found", "_law_due"] := fun _ _ _ _ _ _ us hl => match us, hl with | [_, _], _ => rfl
abbrev slaw : Stmt := topS 7
theorem sclaw : FnScope ["_law_script", "_law_bag_here", "_law_turn", "_law_parts", "_law_part", "_law_repeat", "_law_head", "_law_block", "_law_prefix", "_law_cycle", "_law_result", "_law_whole", "_law_places", "_law_k", "_law_place", "_law_due"] ["_law_script"] (defScope slaw) := ⟨rfl, rfl, rfl, by decide +kernel, rfl, by decide +kernel, by decide +kernel⟩
theorem bilaw : BindAs slaw "law" ["_law_script"] := fun _ _ _ _ _ _ us hl => match us, hl with | [_], _ => rfl
structure Txt (K : PySem.W.Frag) (mg : Str → Option Value) : Prop where
  d_index_at : Tx K mg "index_at" sindex_at
  d__law_bag : Tx K mg "_law_bag" s_law_bag
  d__law_pull : Tx K mg "_law_pull" s_law_pull
  d__law_of : Tx K mg "_law_of" s_law_of
  d__law_same : Tx K mg "_law_same" s_law_same
  z_all : mg "all" = none
  z_bool : mg "bool" = none
  z_dict : mg "dict" = none
  z_int : mg "int" = none
  z_isinstance : mg "isinstance" = none
  z_len : mg "len" = none
  z_list : mg "list" = none
  z_max : mg "max" = none
  z_range : mg "range" = none
  z_sorted : mg "sorted" = none
  z_str : mg "str" = none
  z_tuple : mg "tuple" = none
section
variable {P : Program} {w : World} {K : PySem.W.Frag} {mg : Str → Option Value} {base : Heap}
/-- index_at -/
theorem okindex_at (T : Txt K mg) : Cal P w K mg base "index_at" 1 2 spIndexAt := by
  refine dcal_ok T.d_index_at scindex_at biindex_at (fun f cdv A outer s H E hr => (have hu := hu100 hr; have nd := scindex_at.nd; (dss_cons (ds_asg (dv 0) (dg_tl (n := 6) rfl (dgs_cons (dgn 2 nd) (dgs_cons (dgn 3 nd) (dgs_cons (dgn 4 nd) (dgs_cons (dgn 5 nd) (dgs_cons (dgn 6 nd) (dgs_cons (dgn 7 nd) dgs_nil))))))))
    (dss_cons (ds_if (dt_cmp oo_lt od_lt (dv 1) (de_callB call_len cd_len (by rfl) T.z_len (by decide +kernel) (da_cons (dv 3) da_nil)) (nomark _)) (dss_one (ds_ret (dix 3 hu (dv 1)))) dss_nil)
    (dss_cons (ds_aug (i := 1) nd rfl (by first | exact .inl rfl | exact .inr rfl) (de_callB call_len cd_len (by rfl) T.z_len (by decide +kernel) (da_cons (dv 3) da_nil)) iop_sub od_sub)
    (dss_cons (ds_if (dt_cmp oo_lt od_lt (dv 1) (de_op oo_mul od_mul (de_callB call_len cd_len (by rfl) T.z_len (by decide +kernel) (da_cons (dv 4) da_nil)) (dv 5)) (nomark _)) (dss_one (ds_ret (dix 4 hu (de_op op_mod od_i2 (dv 1) (de_callB call_len cd_len (by rfl) T.z_len (by decide +kernel) (da_cons (dv 4) da_nil)))))) dss_nil)
    (dss_cons (ds_aug (i := 1) nd rfl (by first | exact .inl rfl | exact .inr rfl) (de_op oo_mul od_mul (de_callB call_len cd_len (by rfl) T.z_len (by decide +kernel) (da_cons (dv 4) da_nil)) (dv 5)) iop_sub od_sub)
    (dss_cons (ds_if (dt_cmp oo_lt od_lt (dv 1) (de_callB call_len cd_len (by rfl) T.z_len (by decide +kernel) (da_cons (dv 6) da_nil)) (nomark _)) (dss_one (ds_ret (dix 6 hu (dv 1)))) dss_nil)
    (dss_cons (ds_if (dt_cmp (oo_eq hu) od_eq (dv 7) (de_tup da_nil) (nomark _)) (dss_one (ds_ret de_non)) dss_nil)
    (dss_one (ds_ret (dix 7 hu (de_op op_mod od_i2 (de_op op_sub od_sub (dv 1) (de_callB call_len cd_len (by rfl) T.z_len (by decide +kernel) (da_cons (dv 6) da_nil))) (de_callB call_len cd_len (by rfl) T.z_len (by decide +kernel) (da_cons (dv 7) da_nil))))))))))))))) ?_
  rintro ds Q E ⟨pos, hd, bl, px, cy, r, pl, rfl, h0, r0, rl, bl9, hq⟩
  have e1 := len_map hd
  have e2 := len_map bl
  have e3 := len_map px
  have e4 := len_map cy
  refine ⟨rfl, rfl, _, rfl, ite2 (fun c1 => ?_) (fun c1 => ?_)⟩
  · have c1 : pl < ((hd.map DV.int).length : Int) := of_decide_eq_true c1
    rw [e1] at c1
    refine ⟨trivial, pl, _, rfl, getI_at h0 c1, ?_⟩
    unfold idxV at hq
    rw [if_pos c1] at hq
    exact hq
  have c1 : ¬ pl < ((hd.map DV.int).length : Int) := fun z => c1 (decide_eq_true z)
  refine ⟨by rw [e2]; exact cmul_len bl9 rl, _, rfl, ite2 (fun c2 => ?_) (fun c2 => ?_)⟩
  · have c2 : pl - ((hd.map DV.int).length : Int) < ((bl.map DV.int).length : Int) * r := of_decide_eq_true c2
    rw [e1] at c1
    rw [e1, e2] at c2
    have hb : 0 < (bl.length : Int) := by
      rcases Nat.eq_zero_or_pos bl.length with z | z
      · rw [z] at c2; omega
      · omega
    have m1 := Int.emod_nonneg (pl - hd.length) (show (bl.length : Int) ≠ 0 by omega)
    have m2 := Int.emod_lt_of_pos (pl - hd.length) hb
    refine ⟨trivial, by rw [e2]; exact hb, _, getI bl ((pl - hd.length) % bl.length), rfl, ?_, ?_⟩
    · rw [e1, e2]; exact getI_at m1 m2
    · unfold idxV at hq
      rw [if_neg c1, if_pos c2] at hq
      exact hq
  have c2 : ¬ pl - ((hd.map DV.int).length : Int) < ((bl.map DV.int).length : Int) * r := fun z => c2 (decide_eq_true z)
  refine ⟨by rw [e2]; exact cmul_len bl9 rl, _, rfl, ite2 (fun c3 => ?_) (fun c3 => ?_)⟩
  · have c3 : pl - ((hd.map DV.int).length : Int) - ((bl.map DV.int).length : Int) * r < ((px.map DV.int).length : Int) := of_decide_eq_true c3
    rw [e1, e2, e3] at c3
    rw [e1] at c1
    rw [e1, e2] at c2
    refine ⟨trivial, _, getI px (pl - hd.length - bl.length * r), rfl, ?_, ?_⟩
    · rw [e1, e2]; exact getI_at (by omega) c3
    · unfold idxV at hq
      rw [if_neg c1, if_neg c2, if_pos c3] at hq
      exact hq
  have c3 : ¬ pl - ((hd.map DV.int).length : Int) - ((bl.map DV.int).length : Int) * r < ((px.map DV.int).length : Int) := fun z => c3 (decide_eq_true z)
  rw [e1] at c1
  rw [e1, e2] at c2
  rw [e1, e2, e3] at c3
  unfold idxV at hq
  rw [if_neg c1, if_neg c2, if_neg c3] at hq
  refine ⟨by decide, eq_unit ⟨_, rfl, ?_⟩⟩
  cases cy with
  | nil => exact hq
  | cons c cy =>
    rw [if_neg (by simp)] at hq
    have hp : (0 : Int) < ((c :: cy).length : Int) := by rw [List.length_cons]; omega
    have m1 := Int.emod_nonneg (pl - hd.length - bl.length * r - px.length) (show ((c :: cy).length : Int) ≠ 0 by omega)
    have m2 := Int.emod_lt_of_pos (pl - hd.length - bl.length * r - px.length) hp
    refine ⟨trivial, by rw [e4]; exact hp, _, getI (c :: cy) ((pl - hd.length - bl.length * r - px.length) % (c :: cy).length), rfl, ?_, hq⟩
    rw [e1, e2, e3, e4]
    exact getI_at m1 m2

theorem ok_law_bag (T : Txt K mg) : ∃ (f : Addr) (fd : FuncData), FnOk P w K mg base CX0 1 f fd ["_law_script"] (spBag K) ∧ mg "_law_bag" = some (.ref f) ∧ PySem.W.keepIn K (.ref f) = true ∧ Binds K fd ["_law_script"] [] := by
  obtain ⟨f, fd, F, m⟩ := T.d__law_bag.ex
  refine ⟨f, fd, F.ok sc_law_bag (fun vs H Q E ⟨a, ns, e, _⟩ => by rw [e]; rfl) (fun cdv A outer s H vs Q E hr h => ⟨_, ?_, bag_read h⟩), m, F.kp, F.binds bi_law_bag⟩
  have nd := sc_law_bag.nd
  exact pss_cons (ps_set (i := 1) nd rfl (.inl rfl) pe_int) (pss_cons
    (ps_for PassesOwn.never rfl (pi_list (pe_slice sl_list (pv 0) po_none (po_some pe_int))) (pg_name (i := 2) nd rfl (.inl rfl))
      (pss_one (ps_set (i := 1) nd rfl (.inl rfl) (pe_op op_mod (pe_op op_add (pe_op op_add (pe_op op_mul (pv 1) pe_int) (pe_op op_mod (pv 2) pe_int)) pe_int) pe_int))))
    (pss_one (ps_ret (pe_lst (pa_cons (pe_callTy call_list_of (by rfl) T.z_list (by decide +kernel) (pa_cons (pe_slice sl_list (pv 0) po_none (po_some pe_int)) pa_nil)) (pa_cons pe_int (pa_cons pe_int (pa_cons (pv 1) pa_nil))))))))

/-- _law_pull -/
theorem ok_law_pull (T : Txt K mg) : Cal P w K mg base "_law_pull" 1 2 spPull := by
  refine dcal_pull T.d__law_pull sc_law_pull bi_law_pull rfl (fun f cdv A outer s H E hr => (have hu := hu100 hr; have nd := sc_law_pull.nd; (dss_cutc (ds_if (DW.dt (dw_and (dt_cmp oo_lt od_lt (dix 0 hu de_int) (dv 1) (nomark _)) (dw_and1 (dt_cmp oo_lt od_lt (dix 0 hu de_int) (de_callB call_len cd_len (by rfl) T.z_len (by decide +kernel) (da_cons (dix 0 hu de_int) da_nil)) (nomark _))))) (dss_cons (dset 2 nd (de_ix (oo_ix hu) od_ix (dix 0 hu de_int) (dix 0 hu de_int)))
    (dss_cons (dput 0 hu de_int (de_op oo_add od_add (dix 0 hu de_int) de_int))
    (dss_cons (dput 0 hu de_int de_int)
    (dss_one (ds_if (dt_cmp op_ge od_ib (dv 2) (de_op op_pow od_i2 de_int de_int) (nomark _)) (dss_one (dput 0 hu de_int (dv 2))) (dss_one (dput 0 hu de_int (de_op op_mod od_i2 (de_op oo_add od_add (de_op oo_add od_add (de_op oo_mul od_mul (dix 0 hu de_int) de_int) (de_op oo_mul od_mul (de_op op_mod od_i2 (dv 2) de_int) de_int)) de_int) de_int)))))))) dss_nil)
    (dss_cons (ds_if (dt_cmp op_ge od_ib (dix 0 hu de_int) (dv 1) (nomark _)) (dss_cons (dset 3 nd (de_op op_mod od_i2 (dix 0 hu de_int) (dv 1)))
    (dss_cons (dput 0 hu de_int (de_op op_fdivW od_i2 (dix 0 hu de_int) (dv 1)))
    (dss_one (ds_ret (dv 3))))) dss_nil)
    (dss_cons (dset 4 nd (de_op oo_add od_add (de_op oo_add od_add (de_op oo_mul od_mul (de_op op_mod od_i2 (de_op oo_mul od_mul (dix 0 hu de_int) (dix 0 hu de_int)) de_int) de_int) (de_op oo_mul od_mul (dix 0 hu de_int) de_int)) de_int))
    (dss_cons (dput 0 hu de_int (de_op op_mod od_i2 (dv 4) de_int))
    (dss_one (ds_ret (de_op op_mod od_i2 (de_op oo_add od_add (de_op op_fdivW od_i2 (dix 0 hu de_int) de_int) (de_op oo_mul od_mul (de_op op_mod od_i2 (dix 0 hu de_int) de_int) de_int)) (dv 1)))))))))) ?_
  intro p q cs i c s n Q hcs hok n0 nl hk
  obtain ⟨i0, i9, c0, s0, s9⟩ := hok
  refine ⟨fun ρ => ∃ i c s v2, BagOk cs.length i c s ∧ ρ = [some (Lv.own (bagC p q cs i c s)), some (Lv.val (.int n)), v2, none, none], ?_, ?_⟩
  · have keep : ∃ i' c' s' v2, BagOk cs.length i' c' s' ∧ [some (Lv.own (bagC p q cs i c s)), some (Lv.val (.int n)), none, none, none] = [some (Lv.own (bagC p q cs i' c' s')), some (Lv.val (.int n)), v2, none, none] :=
      ⟨i, c, s, none, ⟨i0, i9, c0, s0, s9⟩, rfl⟩
    refine ⟨trivial, 2, .int c, rfl, rfl, _, rfl, ite2 (fun h1 => ?_) (fun h1 => keep)⟩
    refine ⟨trivial, 1, .int i, rfl, rfl, trivial, 0, .lsa q (cs.map DV.int), rfl, rfl, _, rfl, ite2 (fun h2 => ?_) (fun h2 => keep)⟩
    have h2 : i < ((cs.map DV.int).length : Int) := of_decide_eq_true h2
    obtain ⟨x, hx, hm⟩ := atI_mem (xs := cs.map DV.int) i0 h2
    obtain ⟨z, hz, rfl⟩ := List.mem_map.mp hm
    rw [List.length_map] at h2
    -- cell = ..; bag[1] = bag[1] + 1; bag[2] = 0
    refine ⟨trivial, 0, .lsa q (cs.map DV.int), rfl, rfl, trivial, 1, .int i, rfl, rfl, i, .int z, rfl, hx, ?_⟩
    refine ⟨trivial, 1, .int i, rfl, rfl, trivial, 1, 1, rfl, rfl, trivial, 2, 2, rfl, rfl, ?_⟩
    refine ⟨⟨by decide, by decide, by decide⟩, _, rfl, ite2 (fun h3 => ?_) (fun h3 => ?_)⟩
    · have h3 : (10 : Int) ^ (18 : Int).toNat ≤ z := of_decide_eq_true h3
      have h4 : (0 : Int) ≤ (10 : Int) ^ (18 : Int).toNat := by decide
      exact ⟨trivial, 2, 2, rfl, rfl, i + 1, z, s, some (Lv.val (.int z)), ⟨by omega, by omega, by omega, s0, s9⟩, rfl⟩
    · refine ⟨trivial, 3, .int s, rfl, rfl, cmulW (by omega) (by decide), (by show (0 : Int) < 1000000007; decide), cmulW ?_ (by decide), (by show (0 : Int) < 2147483647; decide), ?_⟩
      · have h5 := Int.emod_nonneg z (show (1000000007 : Int) ≠ 0 by decide)
        have h6 := Int.emod_lt_of_pos z (show (0 : Int) < 1000000007 by decide)
        show (z % 1000000007).natAbs < 2 ^ 64
        omega
      · exact ⟨trivial, 3, 3, rfl, rfl, i + 1, 0, _, some (Lv.val (.int z)), ⟨by omega, by omega, by omega, Int.emod_nonneg _ (by decide), Int.emod_lt_of_pos _ (by decide)⟩, rfl⟩
  · rintro ρ ⟨i, c, s, v2, ⟨i0, i9, c0, s0, s9⟩, rfl⟩
    refine ⟨trivial, 2, .int c, rfl, rfl, _, rfl, ite2 (fun h1 => ?_) (fun h1 => ?_)⟩
    · -- a digit of the great one
      refine ⟨trivial, 2, .int c, rfl, rfl, n0, trivial, 2, .int c, rfl, rfl, cdivW n0 nl, trivial, 2, 2, rfl, rfl, hk _ (Int.emod_nonneg _ (by omega)) (Int.emod_lt_of_pos _ n0), i, c / n, s, ⟨i0, i9, Int.ediv_nonneg c0 (by omega), s0, s9⟩, rfl⟩
    · have m1 := Int.emod_nonneg (s * s) (show (2147483629 : Int) ≠ 0 by decide)
      have m2 := Int.emod_lt_of_pos (s * s) (show (0 : Int) < 2147483629 by decide)
      refine ⟨trivial, 3, .int s, rfl, rfl, trivial, 3, .int s, rfl, rfl, cmulW (by omega) (by omega), (by show (0 : Int) < 2147483629; decide), cmulW (by omega) (by decide), trivial, 3, .int s, rfl, rfl, cmulW (by omega) (by decide), ?_⟩
      have m3 := Int.emod_nonneg (s * s % 2147483629 * 16807 + s * 31 + 12345) (show (2147483647 : Int) ≠ 0 by decide)
      have m4 := Int.emod_lt_of_pos (s * s % 2147483629 * 16807 + s * 31 + 12345) (show (0 : Int) < 2147483647 by decide)
      refine ⟨(by show (0 : Int) < 2147483647; decide), trivial, 3, 3, rfl, rfl, trivial, 3, _, rfl, rfl, cdivW (by decide) (by decide), trivial, 3, _, rfl, rfl, (by show (0 : Int) < 4093; decide), cmulW ?_ (by decide), n0, hk _ (Int.emod_nonneg _ (by omega)) (Int.emod_lt_of_pos _ n0), i, c, _, ⟨i0, i9, c0, m3, m4⟩, rfl⟩
      have m5 := Int.emod_nonneg ((s * s % 2147483629 * 16807 + s * 31 + 12345) % 2147483647) (show (4093 : Int) ≠ 0 by decide)
      have m6 := Int.emod_lt_of_pos ((s * s % 2147483629 * 16807 + s * 31 + 12345) % 2147483647) (show (0 : Int) < 4093 by decide)
      show ((s * s % 2147483629 * 16807 + s * 31 + 12345) % 2147483647 % 4093).natAbs < 2 ^ 64
      omega

/-- _law_of -/
theorem ok_law_of (T : Txt K mg) (G__law_pull : Cal P w K mg base "_law_pull" 1 2 spPull) : Cal P w K mg base "_law_of" 2 2 spOf := by
  refine dcal_ok T.d__law_of sc_law_of bi_law_of (fun f cdv A outer s H E hr => (have hu := hu100 hr; have nd := sc_law_of.nd; (dss_one (ds_ret (dix 1 hu (dcall G__law_pull (hr.mono (by decide)) (da_cons (dv 0) (da_cons (de_callB call_len cd_len (by rfl) T.z_len (by decide +kernel) (da_cons (dv 1) da_nil)) da_nil)))))))) ?_
  rintro ds Q E ⟨p, x, rfl, h⟩
  cases x with
  | str z =>
    obtain ⟨h0, hz, hq⟩ := h
    refine ⟨trivial, hz, rfl, p, _, rfl, by omega, line_log hz, fun k k0 k9 => ?_⟩
    obtain ⟨c, hc, hm⟩ := atI_mem (xs := z.cps.toList) k0 (by rw [Array.length_toList]; exact k9)
    exact ⟨k, c, rfl, hz, hc, hq c hm⟩
  | lst xs =>
    obtain ⟨h0, hz, hq⟩ := h
    have h1 : 0 < xs.length := List.length_pos_iff.mpr h0
    refine ⟨trivial, rfl, p, _, rfl, by omega, line_log hz, fun k k0 k9 => ?_⟩
    obtain ⟨c, hc, hm⟩ := atI_mem (xs := xs) k0 k9
    exact ⟨k, c, rfl, hc, hq c hm⟩
  | tup xs =>
    obtain ⟨h0, hz, hq⟩ := h
    have h1 : 0 < xs.length := List.length_pos_iff.mpr h0
    refine ⟨trivial, rfl, p, _, rfl, by omega, line_log hz, fun k k0 k9 => ?_⟩
    obtain ⟨c, hc, hm⟩ := atI_mem (xs := xs) k0 k9
    exact ⟨k, c, rfl, hc, hq c hm⟩
  | _ => exact False.elim h

/-- _law_same -/
theorem ok_law_same (T : Txt K mg) : ∀ d : Nat, Cal P w K mg base "_law_same" (1 + d) 2 (spSame d)
  | 0 => cal_none T.d__law_same bi_law_same
  | d + 1 => by
    have G__law_same := ok_law_same T d
    refine dcal_ok T.d__law_same sc_law_same bi_law_same (fun f cdv A outer s H E hr => (have hu := hu100 hr; have nd := sc_law_same.nd; (dss_cons (ds_if (dt_cmp op_isN od_is (dv 1) de_non (nomark _)) (dss_one (ds_ret (de_cmp op_isN od_is (dv 0) de_non (nomark _)))) dss_nil)
    (dss_cons (ds_if (DW.dt (dw_or (dt_tru (de_callB call_isi cd_isi (by rfl) T.z_isinstance (by decide +kernel) (da_cons (dv 1) (da_cons (de_ty (n := "bool") (by rfl) T.z_bool (by decide +kernel)) da_nil)))) (dw_or1 (dt_tru (de_callB call_isi cd_isi (by rfl) T.z_isinstance (by decide +kernel) (da_cons (dv 0) (da_cons (de_ty (n := "bool") (by rfl) T.z_bool (by decide +kernel)) da_nil))))))) (dss_one (ds_ret (de_and (de_callB call_isi cd_isi (by rfl) T.z_isinstance (by decide +kernel) (da_cons (dv 1) (da_cons (de_ty (n := "bool") (by rfl) T.z_bool (by decide +kernel)) da_nil))) (de_and (de_callB call_isi cd_isi (by rfl) T.z_isinstance (by decide +kernel) (da_cons (dv 0) (da_cons (de_ty (n := "bool") (by rfl) T.z_bool (by decide +kernel)) da_nil))) (de_one (de_cmp (oo_eq hu) od_eq (dv 0) (dv 1) (nomark _))))))) dss_nil)
    (dss_cons (ds_if (DW.dt (dw_or (dt_tru (de_callB call_isi cd_isi (by rfl) T.z_isinstance (by decide +kernel) (da_cons (dv 1) (da_cons (de_ty (n := "int") (by rfl) T.z_int (by decide +kernel)) da_nil)))) (dw_or1 (dt_tru (de_callB call_isi cd_isi (by rfl) T.z_isinstance (by decide +kernel) (da_cons (dv 1) (da_cons (de_ty (n := "str") (by rfl) T.z_str (by decide +kernel)) da_nil))))))) (dss_cons (ds_if (DW.dt (dw_or (dt_cmp (oo_ne hu) od_ne (de_callB call_isi cd_isi (by rfl) T.z_isinstance (by decide +kernel) (da_cons (dv 0) (da_cons (de_ty (n := "int") (by rfl) T.z_int (by decide +kernel)) da_nil))) (de_callB call_isi cd_isi (by rfl) T.z_isinstance (by decide +kernel) (da_cons (dv 1) (da_cons (de_ty (n := "int") (by rfl) T.z_int (by decide +kernel)) da_nil))) (nomark _)) (dw_or1 (dt_cmp (oo_ne hu) od_ne (de_callB call_isi cd_isi (by rfl) T.z_isinstance (by decide +kernel) (da_cons (dv 0) (da_cons (de_ty (n := "str") (by rfl) T.z_str (by decide +kernel)) da_nil))) (de_callB call_isi cd_isi (by rfl) T.z_isinstance (by decide +kernel) (da_cons (dv 1) (da_cons (de_ty (n := "str") (by rfl) T.z_str (by decide +kernel)) da_nil))) (nomark _))))) (dss_one (ds_ret de_bl)) dss_nil)
    (dss_one (ds_ret (de_cmp (oo_eq hu) od_eq (dv 0) (dv 1) (nomark _))))) dss_nil)
    (dss_cons (ds_if (dt_tru (de_callB call_isi cd_isi (by rfl) T.z_isinstance (by decide +kernel) (da_cons (dv 1) (da_cons (de_ty (n := "dict") (by rfl) T.z_dict (by decide +kernel)) da_nil)))) (dss_cons (ds_if (DW.dt (dw_or (dt_not (dt_tru (de_callB call_isi cd_isi (by rfl) T.z_isinstance (by decide +kernel) (da_cons (dv 0) (da_cons (de_ty (n := "dict") (by rfl) T.z_dict (by decide +kernel)) da_nil))))) (dw_or1 (dt_cmp (oo_ne hu) od_ne (de_callB co_sorted cd_sorted (by rfl) T.z_sorted (by decide +kernel) (da_cons (de_callTy (co_list rfl) cd_list (by rfl) T.z_list (by decide +kernel) (da_cons (dv 0) da_nil)) da_nil)) (de_callB co_sorted cd_sorted (by rfl) T.z_sorted (by decide +kernel) (da_cons (de_callTy (co_list rfl) cd_list (by rfl) T.z_list (by decide +kernel) (da_cons (dv 1) da_nil)) da_nil)) (nomark _))))) (dss_one (ds_ret de_bl)) dss_nil)
    (dss_one (ds_ret (de_callB (cr_all rfl) cd_all (by rfl) T.z_all (by decide +kernel) (da_cons (de_lc (own := [("_law_key", 2)]) rfl nd (di_seq (dv 1)) (blkOk_by (N := ["_law_found", "_law_due", "_law_key", "_law_k"]) (sc := defScope s_law_same) (by decide +kernel)) (fun _ _ _ _ _ => (dgn 2 nd)) (fun _ _ _ _ _ => dts_nil) (fun _ _ _ _ _ => (dcall G__law_same (hr.mono (Nat.le_refl _)) (da_cons (dix 0 hu (dv 2)) (da_cons (dix 1 hu (dv 2)) da_nil))))) da_nil))))) dss_nil)
    (dss_cons (ds_if (DW.dt (dw_or (dt_cmp (oo_ne hu) od_ne (de_callB call_isi cd_isi (by rfl) T.z_isinstance (by decide +kernel) (da_cons (dv 1) (da_cons (de_ty (n := "tuple") (by rfl) T.z_tuple (by decide +kernel)) da_nil))) (de_callB call_isi cd_isi (by rfl) T.z_isinstance (by decide +kernel) (da_cons (dv 0) (da_cons (de_ty (n := "tuple") (by rfl) T.z_tuple (by decide +kernel)) da_nil))) (nomark _)) (dw_or1 (dt_cmp (oo_ne hu) od_ne (de_callB call_isi cd_isi (by rfl) T.z_isinstance (by decide +kernel) (da_cons (dv 1) (da_cons (de_ty (n := "list") (by rfl) T.z_list (by decide +kernel)) da_nil))) (de_callB call_isi cd_isi (by rfl) T.z_isinstance (by decide +kernel) (da_cons (dv 0) (da_cons (de_ty (n := "list") (by rfl) T.z_list (by decide +kernel)) da_nil))) (nomark _))))) (dss_one (ds_ret de_bl)) dss_nil)
    (dss_one (ds_ret (de_and (de_cmp (oo_eq hu) od_eq (de_callB call_len cd_len (by rfl) T.z_len (by decide +kernel) (da_cons (dv 0) da_nil)) (de_callB call_len cd_len (by rfl) T.z_len (by decide +kernel) (da_cons (dv 1) da_nil)) (nomark _)) (de_one (de_callB (cr_all rfl) cd_all (by rfl) T.z_all (by decide +kernel) (da_cons (de_lc (own := [("_law_k", 3)]) rfl nd (di_rng1 (by rfl) T.z_range (da_cons (de_callB call_len cd_len (by rfl) T.z_len (by decide +kernel) (da_cons (dv 1) da_nil)) da_nil)) (blkOk_by (N := ["_law_found", "_law_due", "_law_key", "_law_k"]) (sc := defScope s_law_same) (by decide +kernel)) (fun _ _ _ _ _ => (dgn 3 nd)) (fun _ _ _ _ _ => dts_nil) (fun _ _ _ _ _ => (dcall G__law_same (hr.mono (Nat.le_refl _)) (da_cons (dix 0 hu (dv 3)) (da_cons (dix 1 hu (dv 3)) da_nil))))) da_nil))))))))))))) ?_
    rintro ds Q E ⟨x, rfl, hx, hq⟩
    cases x with
    | non => exact ⟨_, rfl, hq⟩
    | bl b =>
      refine ⟨_, rfl, true, isi_bool.2.2.2.2.2.1 b, true, isi_bool.2.2.2.2.2.1 b, true, isi_bool.2.2.2.2.2.1 b, rfl, ?_⟩
      show Q (.bl (decide (V.bl b = V.bl b)))
      rw [decide_eq_true rfl]
      exact hq
    | int b =>
      refine ⟨_, rfl, false, isi_bool.1 b, false, isi_bool.1 b, true, isi_int.1 b, ?_⟩
      refine ⟨true, isi_int.1 b, true, isi_int.1 b, rfl, _, rfl, false, isi_str.1 b, false, isi_str.1 b, rfl, _, rfl, rfl, ?_⟩
      show Q (.bl (decide (V.int b = V.int b)))
      rw [decide_eq_true rfl]
      exact hq
    | str b =>
      refine ⟨_, rfl, false, isi_bool.2.1 b, false, isi_bool.2.1 b, false, isi_int.2.1 b, true, isi_str.2.1 b, ?_⟩
      refine ⟨false, isi_int.2.1 b, false, isi_int.2.1 b, rfl, _, rfl, true, isi_str.2.1 b, true, isi_str.2.1 b, rfl, _, rfl, rfl, ?_⟩
      show Q (.bl (decide (V.str b = V.str b)))
      rw [decide_eq_true rfl]
      exact hq
    | tup xs =>
      cases d with
      | zero => exact False.elim hx
      | succ d =>
        obtain ⟨hz, hx⟩ := hx
        have hz' : (xs.length : Int) < 2 ^ 62 := by rw [sizeLine_eq] at hz; omega
        refine ⟨_, rfl, false, isi_bool.2.2.1 xs, false, isi_bool.2.2.1 xs, false, isi_int.2.2.1 xs, false, isi_str.2.2.1 xs, false, isi_dict.1 xs, ?_⟩
        refine ⟨true, isi_tuple.1 xs, true, isi_tuple.1 xs, rfl, _, rfl, false, isi_list.1 xs, false, isi_list.1 xs, rfl, _, rfl, rfl, ite2 (fun _ => ?_) (fun h => absurd (decide_eq_true rfl) h)⟩
        refine ⟨by omega, hz', by simpa [rangeD] using hz, dLcW_map (fun _ => .bl true) rfl (fun y hy Q' hQ => ?_) ⟨_, all_true _, by rw [all_true2]; exact hq⟩⟩
        obtain ⟨i, hi, rfl⟩ := List.mem_map.mp hy
        have hi := List.mem_range.mp hi
        obtain ⟨x, hx1, hm⟩ := atI_mem (xs := xs) (k := (0 : Int) + (i : Nat)) (by omega) (by omega)
        exact ⟨trivial, _, x, rfl, hx1, trivial, _, x, rfl, hx1, rfl, x, rfl, hx x hm, hQ _ rfl⟩
    | lst xs =>
      cases d with
      | zero => exact False.elim hx
      | succ d =>
        obtain ⟨hz, hx⟩ := hx
        have hz' : (xs.length : Int) < 2 ^ 62 := by rw [sizeLine_eq] at hz; omega
        refine ⟨_, rfl, false, isi_bool.2.2.2.1 xs, false, isi_bool.2.2.2.1 xs, false, isi_int.2.2.2.1 xs, false, isi_str.2.2.2.1 xs, false, isi_dict.2.1 xs, ?_⟩
        refine ⟨false, isi_tuple.2 xs, false, isi_tuple.2 xs, rfl, _, rfl, true, isi_list.2 xs, true, isi_list.2 xs, rfl, _, rfl, rfl, ite2 (fun _ => ?_) (fun h => absurd (decide_eq_true rfl) h)⟩
        refine ⟨by omega, hz', by simpa [rangeD] using hz, dLcW_map (fun _ => .bl true) rfl (fun y hy Q' hQ => ?_) ⟨_, all_true _, by rw [all_true2]; exact hq⟩⟩
        obtain ⟨i, hi, rfl⟩ := List.mem_map.mp hy
        have hi := List.mem_range.mp hi
        obtain ⟨x, hx1, hm⟩ := atI_mem (xs := xs) (k := (0 : Int) + (i : Nat)) (by omega) (by omega)
        exact ⟨trivial, _, x, rfl, hx1, trivial, _, x, rfl, hx1, rfl, x, rfl, hx x hm, hQ _ rfl⟩
    | _ => cases d <;> exact False.elim hx

set_option maxHeartbeats 0 in
theorem ok_law (T : Txt K mg) (G__law_of : Cal P w K mg base "_law_of" 2 2 spOf) (G__law_pull : Cal P w K mg base "_law_pull" 1 2 spPull) (G__law_same : Cal P w K mg base "_law_same" (1 + 8) 2 (spSame 8)) (G_index_at : Cal P w K mg base "index_at" 1 2 spIndexAt) {f : Addr} {fd : FuncData} (F : Fun K "law" "law" slaw f fd) : FnOk P w K mg base CX0 12 f fd ["_law_script"] (spLaw K) := by
  obtain ⟨fb, fdb, Gb, mb, kb, bb⟩ := ok_law_bag (P := P) (w := w) (base := base) T
  refine dlaw_ok F sclaw rfl (by decide) rfl (fun cdv A outer s H E hr => ps_set (i := 1) sclaw.nd rfl (by first | exact .inl rfl | exact .inr rfl) (pe_call Gb (hr.mono (by decide)) (by rfl) mb kb bb .nil pass0 (pa_cons (pv 0) pa_nil))) (fun cdv A outer s H E hr => (have hu := hu100 hr; have nd := sclaw.nd; (dss_cons (ds_for rfl (di_rng1 (by rfl) T.z_range (da_cons de_int da_nil)) (dgn 2 nd) (dss_cutc (ds_setLc (i := 3) rfl nd rfl rfl (L2.sw_true rfl rfl rfl (by decide +kernel)) (own := [("_law_part", 4)]) (di_rng1 (by rfl) T.z_range (da_cons de_int da_nil)) (blkOk_by (N := ["_law_script", "_law_bag_here", "_law_turn", "_law_parts", "_law_part", "_law_repeat", "_law_head", "_law_block", "_law_prefix", "_law_cycle", "_law_result", "_law_whole", "_law_places", "_law_k", "_law_place", "_law_due"]) (sc := defScope slaw) (by decide +kernel)) (fun _ _ _ _ _ => (dgn 4 nd)) (fun _ _ _ _ _ => dts_nil) (fun _ _ _ _ _ => (de_callTy call_tuple_of cd_tuple (by rfl) T.z_tuple (by decide +kernel) (da_cons (de_lc (own := [("_law_k", 13)]) rfl nd (di_rng1 (by rfl) T.z_range (da_cons (dcall G__law_of (hr.mono (by decide)) (da_cons (dv 1) (da_cons (de_lst (da_cons de_int (da_cons de_int (da_cons de_int (da_cons de_int da_nil))))) da_nil))) da_nil)) (blkOk_by (by kernel_rfl)) (fun _ _ _ _ _ => (dgn 13 nd)) (fun _ _ _ _ _ => dts_nil) (fun _ _ _ _ _ => (dcall G__law_pull (hr.mono (by decide)) (da_cons (dv 1) (da_cons de_int da_nil))))) da_nil))))
    (dss_cutc (dset 5 nd (dcall G__law_of (hr.mono (by decide)) (da_cons (dv 1) (da_cons (de_lst (da_cons de_int (da_cons de_int (da_cons de_int (da_cons (dcall G__law_pull (hr.mono (by decide)) (da_cons (dv 1) (da_cons (de_op op_pow od_i2 de_int de_int) da_nil))) (da_cons (de_op op_pow od_i2 de_int de_int) da_nil)))))) da_nil))))
    (dss_cutc (ds_if (dt_cmp (oo_eq hu) od_eq (dix 3 hu de_int) (de_tup da_nil) (nomark _)) (dss_one (dset 5 nd de_int)) dss_nil)
    (dss_cons (ds_asg (dv 3) (dg_tl (n := 4) rfl (dgs_cons (dgn 6 nd) (dgs_cons (dgn 7 nd) (dgs_cons (dgn 8 nd) (dgs_cons (dgn 9 nd) dgs_nil))))))
    (dss_cons (dset 10 nd (de_tup (da_cons de_int (da_cons (dv 6) (da_cons (dv 7) (da_cons (dv 5) (da_cons (dv 8) (da_cons (dv 9) da_nil))))))))
    (dss_cutc (dset 11 nd (de_op oo_add od_add (de_callB call_len cd_len (by rfl) T.z_len (by decide +kernel) (da_cons (dv 6) da_nil)) (de_op oo_mul od_mul (de_callB call_len cd_len (by rfl) T.z_len (by decide +kernel) (da_cons (dv 7) da_nil)) (dv 5))))
    (dss_cutc (dset 12 nd (de_op oo_add od_add (de_op oo_add od_add (de_lrg1 rfl (by rfl) T.z_list (by rfl) T.z_range de_int) (de_lc (own := [("_law_k", 13)]) rfl nd (di_rng1 (by rfl) T.z_range (da_cons de_int da_nil)) (blkOk_by (N := ["_law_script", "_law_bag_here", "_law_turn", "_law_parts", "_law_part", "_law_repeat", "_law_head", "_law_block", "_law_prefix", "_law_cycle", "_law_result", "_law_whole", "_law_places", "_law_k", "_law_place", "_law_due"]) (sc := defScope slaw) (by decide +kernel)) (fun _ _ _ _ _ => (dgn 13 nd)) (fun _ _ _ _ _ => dts_nil) (fun _ _ _ _ _ => (de_op oo_add od_add (dv 11) (dv 13))))) (de_lc (own := [("_law_k", 13)]) rfl nd (di_rng1 (by rfl) T.z_range (da_cons de_int da_nil)) (blkOk_by (N := ["_law_script", "_law_bag_here", "_law_turn", "_law_parts", "_law_part", "_law_repeat", "_law_head", "_law_block", "_law_prefix", "_law_cycle", "_law_result", "_law_whole", "_law_places", "_law_k", "_law_place", "_law_due"]) (sc := defScope slaw) (by decide +kernel)) (fun _ _ _ _ _ => (dgn 13 nd)) (fun _ _ _ _ _ => dts_nil) (fun _ _ _ _ _ => (de_callB (call_max2 rfl) cd_2i (by rfl) T.z_max (by decide +kernel) (da_cons de_int (da_cons (de_op op_sub od_sub (de_op op_sub od_sub (dv 11) de_int) (dv 13)) da_nil)))))))
    (dss_one (ds_for rfl (di_seq (de_op oo_add od_add (dv 12) (de_lst (da_cons (dcall G__law_pull (hr.mono (by decide)) (da_cons (dv 1) (da_cons (de_op op_pow od_i2 de_int de_int) da_nil))) da_nil)))) (dgn 14 nd) (dss_cons (dset 15 nd de_non)
    (dss_cutc (ds_if (dt_cmp oo_lt od_lt (dv 14) (de_callB call_len cd_len (by rfl) T.z_len (by decide +kernel) (da_cons (dv 6) da_nil)) (nomark _)) (dss_one (dset 15 nd (dix 6 hu (dv 14)))) (dss_one (ds_if (dt_cmp oo_lt od_lt (dv 14) (dv 11) (nomark _)) (dss_one (dset 15 nd (dix 7 hu (de_op op_mod od_i2 (de_op op_sub od_sub (dv 14) (de_callB call_len cd_len (by rfl) T.z_len (by decide +kernel) (da_cons (dv 6) da_nil))) (de_callB call_len cd_len (by rfl) T.z_len (by decide +kernel) (da_cons (dv 7) da_nil)))))) (dss_one (ds_if (dt_cmp oo_lt od_lt (de_op op_sub od_sub (dv 14) (dv 11)) (de_callB call_len cd_len (by rfl) T.z_len (by decide +kernel) (da_cons (dv 8) da_nil)) (nomark _)) (dss_one (dset 15 nd (dix 8 hu (de_op op_sub od_sub (dv 14) (dv 11))))) (dss_one (ds_if (dt_cmp (oo_ne hu) od_ne (dv 9) (de_tup da_nil) (nomark _)) (dss_one (dset 15 nd (dix 9 hu (de_op op_mod od_i2 (de_op op_sub od_sub (de_op op_sub od_sub (dv 14) (dv 11)) (de_callB call_len cd_len (by rfl) T.z_len (by decide +kernel) (da_cons (dv 8) da_nil))) (de_callB call_len cd_len (by rfl) T.z_len (by decide +kernel) (da_cons (dv 9) da_nil)))))) dss_nil)))))))
    (dss_one (ds_if (dt_not (dt_tru (dcall G__law_same (hr.mono (by decide)) (da_cons (dcall G_index_at (hr.mono (by decide)) (da_cons (dv 10) (da_cons (dv 14) da_nil))) (da_cons (dv 15) da_nil))))) (dss_one (ds_ret de_bl)) dss_nil))))))))))))))
    (dss_one (ds_ret de_bl))))) ?_
  intro p
  generalize hK : ({ nx := fun _ => False, rt := fun d _ => d = DV.bl true } : DEnds) = K0
  have hrt : ∀ ρ, K0.rt (.bl true) ρ := by subst hK; intro _; rfl
  clear hK
  refine ⟨by decide, by decide, dWalk_by (fun _ ρ => ∃ v2 v3 v4 v5 v6 v7 v8 v9 v10 v11 v12 v13 v14 v15, ρ = [none, some (Lv.val (.bag p)), v2, v3, v4, v5, v6, v7, v8, v9, v10, v11, v12, v13, v14, v15])
    ⟨none, none, none, none, none, none, none, none, none, none, none, none, none, none, rfl⟩ (fun _ _ => hrt _) ?_⟩
  rintro d r ρ K1 hW _ _ _ ⟨v2, v3, v4, v5, v6, v7, v8, v9, v10, v11, v12, v13, v14, v15, rfl⟩
  have line : ∀ n : Nat, n ≤ 1000 → n ≤ sizeLine := fun n h => by rw [sizeLine_eq]; omega
  -- the four parts
  refine ⟨fun ρ => ∃ (a b c e : List Int) (v4 v13 : Option Lv), b.length ≤ 1000 ∧ ρ = [none, some (Lv.val (.bag p)), some (Lv.val d), some (Lv.val (.lst [.tup (a.map DV.int), .tup (b.map DV.int), .tup (c.map DV.int), .tup (e.map DV.int)])), v4, v5, v6, v7, v8, v9, v10, v11, v12, v13, v14, v15], ?_, ?_⟩
  · refine ⟨by decide, by decide, line _ (by simp [rangeD]), ?_⟩
    refine dLcW_ind (fun ds acc ρ' => ∃ v13, ρ' = [none, some (Lv.val (.bag p)), some (Lv.val d), v3, none, v5, v6, v7, v8, v9, v10, v11, v12, v13, v14, v15] ∧ ∃ ps : List (List Int), acc = ps.map (fun ns => DV.tup (ns.map DV.int)) ∧ (∀ ns ∈ ps, ns.length ≤ 5) ∧ ps.length + ds.length = 4)
      ⟨v13, rfl, [], rfl, by simp, by simp [rangeD]⟩ ?_ ?_
    · rintro acc ρ' ⟨v13, rfl, ps, rfl, h1, h2⟩
      match ps, h1, h2 with
      | [a, b, c, e], h1, h2 => exact ⟨a, b, c, e, _, v13, Nat.le_trans (h1 b (by simp)) (by decide), rfl⟩
    · rintro d' r' acc ρ' W' hW' ⟨v13, rfl, ps, rfl, h1, h2⟩
      refine ⟨by decide, rfl, p, _, rfl, by simp, by decide, fun x hx => ?_⟩
      obtain ⟨n, rfl, n0, n5⟩ : ∃ n : Int, x = .int n ∧ 0 ≤ n ∧ n ≤ 5 := by
        simp only [List.mem_cons, List.not_mem_nil, or_false] at hx
        rcases hx with rfl | rfl | rfl | rfl
        · exact ⟨0, rfl, by decide, by decide⟩
        · exact ⟨1, rfl, by decide, by decide⟩
        · exact ⟨2, rfl, by decide, by decide⟩
        · exact ⟨5, rfl, by decide, by decide⟩
      refine ⟨by omega, by omega, line _ (by simp [rangeD]; omega), draws (by decide) rfl (by decide) (by decide) rfl fun ns hn _ => ?_⟩
      refine hW' _ _ ⟨_, rfl, ps ++ [ns], by simp, ?_, by simp at h2 ⊢; omega⟩
      intro z hz
      rcases List.mem_append.mp hz with hz | hz
      · exact h1 z hz
      · rw [List.mem_singleton.mp hz, hn]; omega
  rintro ρ ⟨a, b, c, e, v4, v13, hb, rfl⟩
  have l30 : (10 ^ (30 : Int).toNat : Int).natAbs.log2 < 1000 := Nat.lt_of_lt_of_le (log_of (n := 100) (by decide) (by decide)) (by decide)
  -- repeat: some number
  refine ⟨fun ρ => ∃ r : Int, 0 ≤ r ∧ r ≤ 10 ^ (30 : Int).toNat ∧ ρ = [none, some (Lv.val (.bag p)), some (Lv.val d), some (Lv.val (.lst [.tup (a.map DV.int), .tup (b.map DV.int), .tup (c.map DV.int), .tup (e.map DV.int)])), v4, some (Lv.val (.int r)), v6, v7, v8, v9, v10, v11, v12, v13, v14, v15], ⟨⟨by decide, by decide, by decide⟩, ?_⟩, ?_⟩
  · refine pull_go (by decide) (Nat.lt_of_lt_of_le l30 (by decide)) fun k k0 k9 => ?_
    refine ⟨⟨by decide, by decide, by decide⟩, by show 5 ≤ sizeLine; decide, rfl, p, _, rfl, by simp, by show 5 ≤ sizeLine; decide, fun x hx => ?_⟩
    obtain ⟨r0, rfl, n0, n5⟩ : ∃ n : Int, x = .int n ∧ 0 ≤ n ∧ n ≤ 10 ^ (30 : Int).toNat := by
      simp only [List.mem_cons, List.not_mem_nil, or_false] at hx
      rcases hx with rfl | rfl | rfl | rfl | rfl
      · exact ⟨0, rfl, by decide, by decide⟩
      · exact ⟨1, rfl, by decide, by decide⟩
      · exact ⟨3, rfl, by decide, by decide⟩
      · exact ⟨k, rfl, k0, Int.le_of_lt k9⟩
      · exact ⟨_, rfl, by decide, by decide⟩
    exact ⟨r0, n0, n5, rfl⟩
  rintro ρ ⟨r0, n0, n5, rfl⟩
  refine ⟨fun ρ => ∃ r : Int, 0 ≤ r ∧ r ≤ 10 ^ (30 : Int).toNat ∧ ρ = [none, some (Lv.val (.bag p)), some (Lv.val d), some (Lv.val (.lst [.tup (a.map DV.int), .tup (b.map DV.int), .tup (c.map DV.int), .tup (e.map DV.int)])), v4, some (Lv.val (.int r)), v6, v7, v8, v9, v10, v11, v12, v13, v14, v15], ?_, ?_⟩
  · exact ⟨trivial, 1, .tup (b.map DV.int), rfl, rfl, by decide, eq_unit ⟨_, rfl, ite2 (fun _ => ⟨0, by decide, by decide, rfl⟩) (fun _ => ⟨r0, n0, n5, rfl⟩)⟩⟩
  clear n0 n5 r0
  rintro ρ ⟨r, r0, r9, rfl⟩
  have ea := len_map a
  have eb := len_map b
  have ec := len_map c
  have ee := len_map e
  have rl : r.natAbs.log2 < 1000 := by
    refine Nat.lt_of_lt_of_le (log_of (n := 100) ?_ (by decide)) (by decide)
    have : (10 ^ (30 : Int).toNat : Int) < 2 ^ 100 := by decide
    omega
  have w0 : (0 : Int) ≤ (a.length : Int) + (b.length : Int) * r := by
    have := Int.mul_nonneg (Int.natCast_nonneg b.length) r0
    omega
  -- the parts by name, the result, whole
  refine ⟨rfl, rfl, (by show 6 ≤ sizeLine; decide), fun ρ => ρ = [none, some (Lv.val (.bag p)), some (Lv.val d), some (Lv.val (.lst [.tup (a.map DV.int), .tup (b.map DV.int), .tup (c.map DV.int), .tup (e.map DV.int)])), v4, some (Lv.val (.int r)), some (Lv.val (.tup (a.map DV.int))), some (Lv.val (.tup (b.map DV.int))), some (Lv.val (.tup (c.map DV.int))), some (Lv.val (.tup (e.map DV.int))), some (Lv.val (.tup [.int 3, .tup (a.map DV.int), .tup (b.map DV.int), .int r, .tup (c.map DV.int), .tup (e.map DV.int)])), some (Lv.val (.int (((a.map DV.int).length : Int) + ((b.map DV.int).length : Int) * r))), v12, v13, v14, v15], ⟨by rw [eb]; exact cmul_len hb rl, rfl⟩, ?_⟩
  rintro ρ rfl
  refine ⟨fun ρ => ∃ (pls : List DV) (v13 : Option Lv), (∀ x ∈ pls, ∃ i : Int, x = .int i ∧ 0 ≤ i) ∧ pls.length = 34 ∧ ρ = [none, some (Lv.val (.bag p)), some (Lv.val d), some (Lv.val (.lst [.tup (a.map DV.int), .tup (b.map DV.int), .tup (c.map DV.int), .tup (e.map DV.int)])), v4, some (Lv.val (.int r)), some (Lv.val (.tup (a.map DV.int))), some (Lv.val (.tup (b.map DV.int))), some (Lv.val (.tup (c.map DV.int))), some (Lv.val (.tup (e.map DV.int))), some (Lv.val (.tup [.int 3, .tup (a.map DV.int), .tup (b.map DV.int), .int r, .tup (c.map DV.int), .tup (e.map DV.int)])), some (Lv.val (.int (((a.map DV.int).length : Int) + ((b.map DV.int).length : Int) * r))), some (Lv.val (.lst pls)), v13, v14, v15], ?_, ?_⟩
  · refine ⟨RgOk.of_le (by omega) (by omega) (by omega) (by omega), by omega, by omega, range_line (by decide), dLcW_map (fun d => match d with | .int i => .int (((a.map DV.int).length : Int) + ((b.map DV.int).length : Int) * r + i) | _ => .non) rfl (fun y hy Q' hQ => ?_) ?_⟩
    · obtain ⟨i, _, rfl⟩ := List.mem_map.mp hy
      exact hQ _ rfl
    refine ⟨app_line 14 14 (range_len 0 14) (by rw [List.length_map]; exact range_len 0 14) (by decide), by omega, by omega, range_line (by decide), dLcW_map (fun d => match d with | .int i => .int (if ((a.map DV.int).length : Int) + ((b.map DV.int).length : Int) * r - 1 - i > 0 then ((a.map DV.int).length : Int) + ((b.map DV.int).length : Int) * r - 1 - i else 0) | _ => .non) rfl (fun y hy Q' hQ => ?_) ?_⟩
    · obtain ⟨i, _, rfl⟩ := List.mem_map.mp hy
      exact hQ _ rfl
    refine ⟨app_line 28 6 (by rw [List.length_append, List.length_map, range_len, range_len]; rfl) (by rw [List.length_map]; exact range_len 0 6) (by decide), _, _, ?_, ?_, rfl⟩
    · intro x hx
      rcases List.mem_append.mp hx with hx | hx
      · rcases List.mem_append.mp hx with hx | hx
        · obtain ⟨i, _, rfl⟩ := List.mem_map.mp hx
          exact ⟨_, rfl, by omega⟩
        · obtain ⟨y, hy, rfl⟩ := List.mem_map.mp hx
          obtain ⟨i, _, rfl⟩ := List.mem_map.mp hy
          exact ⟨_, rfl, by rw [ea, eb]; omega⟩
      · obtain ⟨y, hy, rfl⟩ := List.mem_map.mp hx
        obtain ⟨i, _, rfl⟩ := List.mem_map.mp hy
        refine ⟨_, rfl, ?_⟩
        split <;> omega
    · rw [List.length_append, List.length_append, List.length_map, List.length_map, range_len, range_len, range_len]
      rfl
  rintro ρ ⟨pls, v13, hpls, hlen, rfl⟩
  refine ⟨⟨by decide, by decide, by decide⟩, pull_go (by decide) (Nat.lt_of_lt_of_le (log_of (n := 200) (by decide) (by decide)) (by decide)) fun k k0 k9 => ⟨by show 1 ≤ sizeLine; decide, app_line 34 1 hlen rfl (by decide), ?_⟩⟩
  refine dWalk_by (fun ds ρ => (∀ x ∈ ds, ∃ i : Int, x = .int i ∧ 0 ≤ i) ∧ ∃ v12 v13 v14 v15, ρ = [none, some (Lv.val (.bag p)), some (Lv.val d), some (Lv.val (.lst [.tup (a.map DV.int), .tup (b.map DV.int), .tup (c.map DV.int), .tup (e.map DV.int)])), v4, some (Lv.val (.int r)),
      some (Lv.val (.tup (a.map DV.int))), some (Lv.val (.tup (b.map DV.int))), some (Lv.val (.tup (c.map DV.int))), some (Lv.val (.tup (e.map DV.int))),
      some (Lv.val (.tup [.int 3, .tup (a.map DV.int), .tup (b.map DV.int), .int r, .tup (c.map DV.int), .tup (e.map DV.int)])), some (Lv.val (.int (((a.map DV.int).length : Int) + ((b.map DV.int).length : Int) * r))), v12, v13, v14, v15]) ⟨?_, _, _, _, _, rfl⟩ ?_ ?_
  · intro x hx
    rcases List.mem_append.mp hx with hx | hx
    · exact hpls x hx
    · rw [List.mem_singleton.mp hx]
      exact ⟨k, rfl, k0⟩
  · rintro ρ ⟨_, v12, v13, v14, v15, rfl⟩
    exact hW _ ⟨_, _, _, _, _, _, _, _, _, _, _, _, _, _, rfl⟩
  rintro x rr ρ K2 hW' _ _ _ ⟨hx, v12, v13, v14, v15, rfl⟩
  obtain ⟨pl, rfl, p0⟩ := hx x (by simp)
  have hx' : ∀ x ∈ rr, ∃ i : Int, x = .int i ∧ 0 ≤ i := fun x h => hx x (by simp [h])
  refine ⟨fun ρ => ρ = [none, some (Lv.val (.bag p)), some (Lv.val d), some (Lv.val (.lst [.tup (a.map DV.int), .tup (b.map DV.int), .tup (c.map DV.int), .tup (e.map DV.int)])), v4, some (Lv.val (.int r)),
      some (Lv.val (.tup (a.map DV.int))), some (Lv.val (.tup (b.map DV.int))), some (Lv.val (.tup (c.map DV.int))), some (Lv.val (.tup (e.map DV.int))),
      some (Lv.val (.tup [.int 3, .tup (a.map DV.int), .tup (b.map DV.int), .int r, .tup (c.map DV.int), .tup (e.map DV.int)])), some (Lv.val (.int (((a.map DV.int).length : Int) + ((b.map DV.int).length : Int) * r))),
      v12, v13, some (Lv.val (.int pl)), some (Lv.val (idxV a b c e r pl))], ?_, ?_⟩
  · unfold idxV
    refine ⟨_, rfl, ite2 (fun c1 => ?_) (fun c1 => ?_)⟩
    · have c1 : pl < ((a.map DV.int).length : Int) := of_decide_eq_true c1
      rw [ea] at c1
      rw [if_pos c1]
      exact ⟨trivial, pl, _, rfl, getI_at p0 c1, rfl⟩
    have c1 : ¬ pl < ((a.map DV.int).length : Int) := fun z => c1 (decide_eq_true z)
    refine ⟨_, rfl, ite2 (fun c2 => ?_) (fun c2 => ?_)⟩
    · have c2 : pl < ((a.map DV.int).length : Int) + ((b.map DV.int).length : Int) * r := of_decide_eq_true c2
      rw [ea] at c1
      rw [ea, eb] at c2
      have c2' : pl - (a.length : Int) < (b.length : Int) * r := by omega
      have hbp : 0 < (b.length : Int) := by
        rcases Nat.eq_zero_or_pos b.length with z | z
        · rw [z] at c2'; omega
        · omega
      have m1 := Int.emod_nonneg (pl - a.length) (show (b.length : Int) ≠ 0 by omega)
      have m2 := Int.emod_lt_of_pos (pl - a.length) hbp
      rw [if_neg c1, if_pos c2']
      refine ⟨trivial, by rw [eb]; exact hbp, _, getI b ((pl - a.length) % b.length), rfl, ?_, rfl⟩
      rw [ea, eb]; exact getI_at m1 m2
    have c2 : ¬ pl < ((a.map DV.int).length : Int) + ((b.map DV.int).length : Int) * r := fun z => c2 (decide_eq_true z)
    have c2' : ¬ pl - (a.length : Int) < (b.length : Int) * r := by rw [ea, eb] at c2; omega
    have es : pl - (((a.map DV.int).length : Int) + ((b.map DV.int).length : Int) * r) = pl - a.length - b.length * r := by rw [ea, eb]; omega
    refine ⟨_, rfl, ite2 (fun c3 => ?_) (fun c3 => ?_)⟩
    · have c3 : pl - (((a.map DV.int).length : Int) + ((b.map DV.int).length : Int) * r) < ((c.map DV.int).length : Int) := of_decide_eq_true c3
      rw [es, ec] at c3
      rw [ea] at c1
      rw [if_neg c1, if_neg c2', if_pos c3]
      refine ⟨trivial, _, getI c (pl - a.length - b.length * r), rfl, ?_, rfl⟩
      rw [es]; exact getI_at (by omega) c3
    have c3 : ¬ pl - (((a.map DV.int).length : Int) + ((b.map DV.int).length : Int) * r) < ((c.map DV.int).length : Int) := fun z => c3 (decide_eq_true z)
    rw [es, ec] at c3
    rw [ea] at c1
    rw [if_neg c1, if_neg c2', if_neg c3]
    refine ⟨by decide, eq_unit ⟨_, rfl, ?_⟩⟩
    cases e with
    | nil => exact rfl
    | cons y ys =>
      have hne : ¬ ((y :: ys).isEmpty = true) := by simp
      rw [if_neg hne]
      have hp : (0 : Int) < ((y :: ys).length : Int) := by rw [List.length_cons]; omega
      have m1 := Int.emod_nonneg (pl - a.length - b.length * r - c.length) (show ((y :: ys).length : Int) ≠ 0 by omega)
      have m2 := Int.emod_lt_of_pos (pl - a.length - b.length * r - c.length) hp
      refine ⟨trivial, by rw [ee]; exact hp, _, getI (y :: ys) ((pl - a.length - b.length * r - c.length) % (y :: ys).length), rfl, ?_, rfl⟩
      rw [es, ec, ee]
      exact getI_at m1 m2
  · rintro ρ rfl
    refine ⟨rfl, _, a, b, c, e, r, pl, rfl, p0, r0, rl, hb, same_go rfl ?_ (hW' _ ⟨hx', _, _, _, _, rfl⟩)⟩
    unfold idxV getI
    split
    · trivial
    · split
      · trivial
      · split
        · trivial
        · split <;> trivial

end
theorem all_mk {l : PySem.W.OpenLaw} {w : World} {K : PySem.W.Frag} {h : Heap} {mg : Str → Option Value} {fa f0 f1 f2 f3 f4 f5 : Addr} (X : K.In h) (G : h.Ns mainGlobals mg) (hfa : mg "law" = some (.ref fa))
    {od0 an0 od1 an1 od2 an2 od3 an3 od4 an4 od5 an5 : Option Addr} {sl0 sl1 sl2 sl3 sl4 sl5 : Array (Option Value)} {oc0 kV0 dc0 pm0 cd0 ct0 oc1 kV1 dc1 pm1 cd1 ct1 oc2 kV2 dc2 pm2 cd2 ct2 oc3 kV3 dc3 pm3 cd3 ct3 oc4 kV4 dc4 pm4 cd4 ct4 oc5 kV5 dc5 pm5 cd5 ct5 : Value}
    (a0 : PySem.W.nsIn K mainGlobals "index_at" = some (some (.ref f0))) (l0 : K.lookup f0 = some ⟨oc0, od0, .func (PySem.W.fnOf "index_at" "index_at" (defArgs sindex_at) (defBody sindex_at) (defScope sindex_at) .none kV0 dc0 pm0 an0 cd0 ct0), sl0⟩) (c0 : PySem.W.codeIn K cd0 "index_at" = true) (k0 : PySem.W.keepIn K (.ref f0) = true)
    (a1 : PySem.W.nsIn K mainGlobals "_law_bag" = some (some (.ref f1))) (l1 : K.lookup f1 = some ⟨oc1, od1, .func (PySem.W.fnOf "_law_bag" "_law_bag" (defArgs s_law_bag) (defBody s_law_bag) (defScope s_law_bag) .none kV1 dc1 pm1 an1 cd1 ct1), sl1⟩) (c1 : PySem.W.codeIn K cd1 "_law_bag" = true) (k1 : PySem.W.keepIn K (.ref f1) = true)
    (a2 : PySem.W.nsIn K mainGlobals "_law_pull" = some (some (.ref f2))) (l2 : K.lookup f2 = some ⟨oc2, od2, .func (PySem.W.fnOf "_law_pull" "_law_pull" (defArgs s_law_pull) (defBody s_law_pull) (defScope s_law_pull) .none kV2 dc2 pm2 an2 cd2 ct2), sl2⟩) (c2 : PySem.W.codeIn K cd2 "_law_pull" = true) (k2 : PySem.W.keepIn K (.ref f2) = true)
    (a3 : PySem.W.nsIn K mainGlobals "_law_of" = some (some (.ref f3))) (l3 : K.lookup f3 = some ⟨oc3, od3, .func (PySem.W.fnOf "_law_of" "_law_of" (defArgs s_law_of) (defBody s_law_of) (defScope s_law_of) .none kV3 dc3 pm3 an3 cd3 ct3), sl3⟩) (c3 : PySem.W.codeIn K cd3 "_law_of" = true) (k3 : PySem.W.keepIn K (.ref f3) = true)
    (a4 : PySem.W.nsIn K mainGlobals "_law_same" = some (some (.ref f4))) (l4 : K.lookup f4 = some ⟨oc4, od4, .func (PySem.W.fnOf "_law_same" "_law_same" (defArgs s_law_same) (defBody s_law_same) (defScope s_law_same) .none kV4 dc4 pm4 an4 cd4 ct4), sl4⟩) (c4 : PySem.W.codeIn K cd4 "_law_same" = true) (k4 : PySem.W.keepIn K (.ref f4) = true)
    (a5 : PySem.W.nsIn K mainGlobals "law" = some (some (.ref f5))) (l5 : K.lookup f5 = some ⟨oc5, od5, .func (PySem.W.fnOf "law" "law" (defArgs slaw) (defBody slaw) (defScope slaw) .none kV5 dc5 pm5 an5 cd5 ct5), sl5⟩) (c5 : PySem.W.codeIn K cd5 "law" = true) (k5 : PySem.W.keepIn K (.ref f5) = true)
    (z_all : PySem.W.nsIn K mainGlobals "all" = some none)
    (z_bool : PySem.W.nsIn K mainGlobals "bool" = some none)
    (z_dict : PySem.W.nsIn K mainGlobals "dict" = some none)
    (z_int : PySem.W.nsIn K mainGlobals "int" = some none)
    (z_isinstance : PySem.W.nsIn K mainGlobals "isinstance" = some none)
    (z_len : PySem.W.nsIn K mainGlobals "len" = some none)
    (z_list : PySem.W.nsIn K mainGlobals "list" = some none)
    (z_max : PySem.W.nsIn K mainGlobals "max" = some none)
    (z_range : PySem.W.nsIn K mainGlobals "range" = some none)
    (z_sorted : PySem.W.nsIn K mainGlobals "sorted" = some none)
    (z_str : PySem.W.nsIn K mainGlobals "str" = some none)
    (z_tuple : PySem.W.nsIn K mainGlobals "tuple" = some none)
    : ∃ fd : FuncData, (∀ (s : Shared) (v : Value), BindsTo s fd ⟨[v], []⟩ [("_law_script", v)]) ∧ ∀ base : Heap, K.In base → base.Ns mainGlobals mg → FnOk l.prog w K mg base CX0 12 fa fd ["_law_script"] (spLaw K) := by
  have e := hfa.symm.trans (PySem.W.mg_of X G a5)
  cases e
  have T : Txt K mg := ⟨⟨_, _, fun_mk (st := sindex_at) l0 c0 k0, PySem.W.mg_of X G a0⟩, ⟨_, _, fun_mk (st := s_law_bag) l1 c1 k1, PySem.W.mg_of X G a1⟩, ⟨_, _, fun_mk (st := s_law_pull) l2 c2 k2, PySem.W.mg_of X G a2⟩, ⟨_, _, fun_mk (st := s_law_of) l3 c3 k3, PySem.W.mg_of X G a3⟩, ⟨_, _, fun_mk (st := s_law_same) l4 c4 k4, PySem.W.mg_of X G a4⟩, PySem.W.mg_none_of X G z_all, PySem.W.mg_none_of X G z_bool, PySem.W.mg_none_of X G z_dict, PySem.W.mg_none_of X G z_int, PySem.W.mg_none_of X G z_isinstance, PySem.W.mg_none_of X G z_len, PySem.W.mg_none_of X G z_list, PySem.W.mg_none_of X G z_max, PySem.W.mg_none_of X G z_range, PySem.W.mg_none_of X G z_sorted, PySem.W.mg_none_of X G z_str, PySem.W.mg_none_of X G z_tuple⟩
  refine ⟨_, fun s v => .of_eq (bilaw kV5 dc5 pm5 an5 cd5 ct5 [v] rfl), fun base _ _ => ?_⟩
  have G_index_at := okindex_at (P := l.prog) (w := w) (base := base) T
  have G__law_pull := ok_law_pull (P := l.prog) (w := w) (base := base) T
  have G__law_of := ok_law_of (P := l.prog) (w := w) (base := base) T G__law_pull
  have G__law_same := ok_law_same (P := l.prog) (w := w) (base := base) T 8
  exact ok_law T G__law_of G__law_pull G__law_same G_index_at (fun_mk (st := slaw) l5 c5 k5)
end DL
open PySem PySem.W PyProof.Rows
set_option maxHeartbeats 0 in
theorem PySem.Challenge.cw_sunderow_k41_indices_of_a_result_holds : PySem.Challenge.rw_sunderow_k41_indices_of_a_result.Holds := by
  w_on; o_law; k_head; (case hw => w_witness2)
  k_fill
  refine L2.walk_of (l := PySem.Challenge.rw_sunderow_k41_indices_of_a_result) (n := 63) (k := 12) (x := "_law_script") (CX := fun _ => L2.CX0) (sp := fun w => DL.spLaw _) rfl (by decide) rfl ⟨rfl, by decide, by decide⟩ (fun w h Y => PySem.W.kIn_of Y) ?F (fun _ _ a ns hl _ hS => ⟨a, ns, rfl, hS, hl, fun _ => rfl⟩) (fun _ _ _ _ _ h => h)
  case F =>
    intro w mg fa h KX G hmg
    refine' DL.all_mk KX G hmg ?a0 ?l0 ?c0 ?k0 ?a1 ?l1 ?c1 ?k1 ?a2 ?l2 ?c2 ?k2 ?a3 ?l3 ?c3 ?k3 ?a4 ?l4 ?c4 ?k4 ?a5 ?l5 ?c5 ?k5 ?z_all ?z_bool ?z_dict ?z_int ?z_isinstance ?z_len ?z_list ?z_max ?z_range ?z_sorted ?z_str ?z_tuple
    (case a0 => k_is); (case l0 => k_is); (case c0 => k_is); (case k0 => k_is); (case a1 => k_is); (case l1 => k_is); (case c1 => k_is); (case k1 => k_is); (case a2 => k_is); (case l2 => k_is); (case c2 => k_is); (case k2 => k_is); (case a3 => k_is); (case l3 => k_is); (case c3 => k_is); (case k3 => k_is); (case a4 => k_is); (case l4 => k_is); (case c4 => k_is); (case k4 => k_is); (case a5 => k_is); (case l5 => k_is); (case c5 => k_is); (case k5 => k_is); (case z_all => k_is); (case z_bool => k_is); (case z_dict => k_is); (case z_int => k_is); (case z_isinstance => k_is); (case z_len => k_is); (case z_list => k_is); (case z_max => k_is); (case z_range => k_is); (case z_sorted => k_is); (case z_str => k_is); (case z_tuple => k_is)
