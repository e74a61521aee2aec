import PyProof.Rows.All
import HandS.ForMost
import HandS.ForExc
import HandS.IsInst
import HandS.Flow
import HandS.Wide
import HandS.Walk
import HandS.TupAny
import HandS.Deep
import HandS.More
import HandS.TupMul
import HandS.StrMore
import PyProof.StrBlock2
import HandS.Sort
import HandS.SortInts
import HandS.WordsDict
import HandS.Conv
import HandS.FStr
import HandS.Style
import HandS.TryOnly
import HandS.ExcInit
import HandS.ExcField
import HandS.TryMany
import HandS.Lambda
import HandS.EndTab
import HandS.WordsExc
import HandS.ExcOwn
import KE.KExcInit
import HandS.LawCells
import HandS.DictComp
import HandS.EndOwn
import PyProof.StrLawsTight
import PyProof.StrLawsChain
import PyProof.Rows.StrSplitJoin
import PyProof.Rows.StrSplitAre
import KE.GoesEnumKw
import KE.LtData
import HandS.Defaults
import KE.KRevSl
import HandS.OwnEq
import PyProof.CallFns
import PyProof.InstEq
import KE.KCallOwn
import PyProof.Rows.StrPartPair
import PyProof.P3Eq
import PySem.Challenge.RW_sunderow_k17_one_more_step
set_option Elab.async false
set_option linter.all false
set_option maxRecDepth 100000
set_option maxHeartbeats 2000000
namespace DL
open PySem L2

/-- deep data; dic: keys and values in one order; bag: the law's own bag -/
inductive DV where
  | non | bl (b : Bool) | int (i : Int) | str (x : Str)
  | tup (xs : List DV) | lst (xs : List DV)
  | dic (ks : List Key) (vs : List DV)
  | obj (C : Addr) (ns : List Str) (vs : List DV)
  | bag (a : Addr)
  | ty (n : String)
  | cls (C : Addr)
  | lsa (a : Addr) (xs : List DV)
  | osa (a C : Addr) (ns : List Str) (vs : List DV)
  | exc (a C dd : Addr) (ns : List Str) (vs : List DV)

/-- a world: what is frozen, what is a cell of a fixed kind -/
abbrev IsX (o : HO) : Prop := ∃ φ, o = .ext φ
structure Cell where
  p : (Addr → Option HO) → HO → Prop
  mono : ∀ f g o, (∀ a u, f a = some u → IsX u → g a = some u) → p f o → p g o
structure Wo where
  fz : Addr → Option HO
  ce : Addr → Option Cell
  lk : Addr → Option Obj := fun _ => none

def Wo.add (F : Wo) (p : Addr) (o : HO) : Wo := ⟨fun b => if b = p then some o else F.fz b, F.ce, F.lk⟩
/-- a dict is known to its object -/
def Wo.seal (F : Wo) (p : Addr) (ob : Obj) : Wo := ⟨F.fz, F.ce, fun b => if b = p then some ob else F.lk b⟩
def Ext (F F' : Wo) : Prop := (∀ a o, F.fz a = some o → F'.fz a = some o) ∧ (∀ a f, F.ce a = some f → F'.ce a = some f) ∧ (∀ a b, F.lk a = some b → F'.lk a = some b)
theorem Ext.refl (F : Wo) : Ext F F := ⟨fun _ _ h => h, fun _ _ h => h, fun _ _ h => h⟩
theorem Ext.trans {F G I : Wo} (h : Ext F G) (k : Ext G I) : Ext F I := ⟨fun a o e => k.1 a o (h.1 a o e), fun a o e => k.2.1 a o (h.2.1 a o e), fun a o e => k.2.2 a o (h.2.2 a o e)⟩
theorem Ext.add {F : Wo} {p : Addr} {o : HO} (h : F.fz p = none) : Ext F (F.add p o) := by
  refine ⟨fun a u e => ?_, fun _ _ e => e, fun _ _ e => e⟩
  show (if a = p then some o else F.fz a) = some u
  by_cases c : a = p
  · subst c; rw [h] at e; cases e
  · rw [if_neg c]; exact e
theorem Wo.add_same {F : Wo} {p : Addr} {o : HO} : (F.add p o).fz p = some o := if_pos rfl
theorem Wo.add_ne {F : Wo} {p a : Addr} {o : HO} (h : a ≠ p) : (F.add p o).fz a = F.fz a := if_neg h

/-- the bag: the cells' list at q, how many are used, the rest of a great one, the salt -/
def BagI (q : Addr) (n : Nat) : Cell := ⟨fun _ o => ∃ i c s : Int, o = .lst [.ref q, .int i, .int c, .int s] ∧ 0 ≤ i ∧ i ≤ n ∧ 0 ≤ c ∧ 0 ≤ s ∧ s < 2147483647, fun _ _ _ _ h => h⟩
def BagAt (F : Wo) (a : Addr) : Prop := ∃ (q : Addr) (cs : List Int), F.fz q = some (.lst (cs.map V.int)) ∧ cs.length ≤ 63 ∧ F.ce a = some (BagI q cs.length)

mutual
def Rep (F : Wo) : DV → V → Prop
  | .non, v => v = .non
  | .bl b, v => v = .bl b
  | .int i, v => v = .int i
  | .str x, v => v = .str x
  | .tup xs, v => ∃ a vs, v = .ref a ∧ F.fz a = some (.tup vs) ∧ Reps F xs vs
  | .lst xs, v => ∃ a vs, v = .ref a ∧ F.fz a = some (.lst vs) ∧ Reps F xs vs
  | .dic ks xs, v => ∃ a kvs, v = .ref a ∧ F.fz a = some (.dK kvs) ∧ kvs.map (·.1) = ks ∧ Reps F xs (kvs.map (·.2))
  | .obj C ns xs, v => ∃ a dx fs, v = .ref a ∧ F.fz a = some (.ins C dx fs) ∧ fs.map (·.1) = ns ∧ Reps F xs (fs.map (·.2))
  | .bag a, v => v = .ref a ∧ BagAt F a
  | .ty n, v => v = .ty n
  | .cls C, v => v = .ref C
  | .lsa a xs, v => v = .ref a ∧ ∃ vs, F.fz a = some (.lst vs) ∧ Reps F xs vs
  | .osa a C ns xs, v => v = .ref a ∧ ∃ dx fs, F.fz a = some (.ins C dx fs) ∧ fs.map (·.1) = ns ∧ Reps F xs (fs.map (·.2))
  | .exc a C dd ns xs, v => v = .ref a ∧ ∃ fs, F.fz dd = some (.xd fs) ∧ fs.map (·.1) = ns ∧ Reps F xs (fs.map (·.2))
def Reps (F : Wo) : List DV → List V → Prop
  | [], vs => vs = []
  | x :: xs, vs => ∃ v r, vs = v :: r ∧ Rep F x v ∧ Reps F xs r
end

section reps
variable {F : Wo}
theorem reps_nil {vs : List V} : Reps F [] vs ↔ vs = [] := by unfold Reps; exact Iff.rfl
theorem reps_cons {d : DV} {ds : List DV} {vs : List V} : Reps F (d :: ds) vs ↔ ∃ v r, vs = v :: r ∧ Rep F d v ∧ Reps F ds r := by
  constructor
  · intro h; unfold Reps at h; exact h
  · intro h; unfold Reps; exact h
theorem Reps.cons {d : DV} {ds : List DV} {v : V} {vs : List V} (h : Rep F d v) (k : Reps F ds vs) : Reps F (d :: ds) (v :: vs) := reps_cons.mpr ⟨v, vs, rfl, h, k⟩
theorem Reps.nil : Reps F [] [] := reps_nil.mpr rfl
theorem Reps.length : ∀ {ds : List DV} {vs : List V}, Reps F ds vs → ds.length = vs.length
  | [], _, h => by rw [reps_nil.mp h]; rfl
  | d :: ds, _, h => by obtain ⟨v, r, rfl, _, k⟩ := reps_cons.mp h; simp [Reps.length k]
theorem Reps.get : ∀ {ds : List DV} {vs : List V} {i : Nat} {d : DV}, Reps F ds vs → ds[i]? = some d → ∃ v, vs[i]? = some v ∧ Rep F d v
  | [], _, _, _, _, e => by simp at e
  | _ :: _, _, 0, _, h, e => by obtain ⟨v, r, rfl, k, _⟩ := reps_cons.mp h; simp at e; subst e; exact ⟨v, rfl, k⟩
  | _ :: _, _, i + 1, _, h, e => by obtain ⟨v, r, rfl, _, k⟩ := reps_cons.mp h; simpa using Reps.get k (by simpa using e)
theorem Reps.getV : ∀ {ds : List DV} {vs : List V} {i : Nat} {v : V}, Reps F ds vs → vs[i]? = some v → ∃ d, ds[i]? = some d ∧ Rep F d v
  | [], _, _, _, h, e => by rw [reps_nil.mp h] at e; simp at e
  | d :: _, _, 0, _, h, e => by obtain ⟨v, r, rfl, k, _⟩ := reps_cons.mp h; simp at e; subst e; exact ⟨d, rfl, k⟩
  | _ :: _, _, i + 1, _, h, e => by obtain ⟨v, r, rfl, _, k⟩ := reps_cons.mp h; simpa using Reps.getV k (by simpa using e)
theorem Reps.append : ∀ {ds es : List DV} {vs ws : List V}, Reps F ds vs → Reps F es ws → Reps F (ds ++ es) (vs ++ ws)
  | [], _, _, _, h, k => by rw [reps_nil.mp h]; exact k
  | _ :: _, _, _, _, h, k => by obtain ⟨v, r, rfl, q, t⟩ := reps_cons.mp h; exact Reps.cons q (Reps.append t k)
theorem Reps.take : ∀ {ds : List DV} {vs : List V} (n : Nat), Reps F ds vs → Reps F (ds.take n) (vs.take n)
  | _, _, 0, _ => by simp [reps_nil]
  | [], _, n + 1, h => by rw [reps_nil.mp h]; simp [reps_nil]
  | _ :: _, _, n + 1, h => by obtain ⟨v, r, rfl, q, t⟩ := reps_cons.mp h; exact Reps.cons q (Reps.take n t)
theorem Reps.drop : ∀ {ds : List DV} {vs : List V} (n : Nat), Reps F ds vs → Reps F (ds.drop n) (vs.drop n)
  | _, _, 0, h => h
  | [], _, n + 1, h => by rw [reps_nil.mp h]; simp [reps_nil]
  | _ :: _, _, n + 1, h => by obtain ⟨v, r, rfl, q, t⟩ := reps_cons.mp h; exact Reps.drop n t
theorem Reps.set {d : DV} {v : V} (hd : Rep F d v) : ∀ {ds : List DV} {vs : List V} (i : Nat), Reps F ds vs → Reps F (ds.set i d) (vs.set i v)
  | [], _, _, h => by rw [reps_nil.mp h]; simp [reps_nil]
  | _ :: _, _, 0, h => by obtain ⟨v, r, rfl, q, t⟩ := reps_cons.mp h; exact Reps.cons hd t
  | _ :: _, _, i + 1, h => by obtain ⟨v, r, rfl, q, t⟩ := reps_cons.mp h; exact Reps.cons q (Reps.set hd i t)
theorem rep_non {v : V} : Rep F .non v ↔ v = .non := by unfold Rep; exact Iff.rfl
theorem rep_bl {v : V} {b : Bool} : Rep F (.bl b) v ↔ v = .bl b := by unfold Rep; exact Iff.rfl
theorem rep_int {v : V} {i : Int} : Rep F (.int i) v ↔ v = .int i := by unfold Rep; exact Iff.rfl
theorem rep_str {v : V} {x : Str} : Rep F (.str x) v ↔ v = .str x := by unfold Rep; exact Iff.rfl
theorem rep_ty {v : V} {n : String} : Rep F (.ty n) v ↔ v = .ty n := by unfold Rep; exact Iff.rfl
theorem rep_cls {v : V} {C : Addr} : Rep F (.cls C) v ↔ v = .ref C := by unfold Rep; exact Iff.rfl
theorem rep_lsa {v : V} {a : Addr} {xs : List DV} : Rep F (.lsa a xs) v ↔ v = .ref a ∧ ∃ vs, F.fz a = some (.lst vs) ∧ Reps F xs vs := by
  constructor <;> (intro h; unfold Rep at *; exact h)
theorem rep_osa {v : V} {a C : Addr} {ns : List Str} {xs : List DV} : Rep F (.osa a C ns xs) v ↔ v = .ref a ∧ ∃ dx fs, F.fz a = some (.ins C dx fs) ∧ fs.map (·.1) = ns ∧ Reps F xs (fs.map (·.2)) := by
  constructor <;> (intro h; unfold Rep at *; exact h)
theorem rep_exc {v : V} {a C dd : Addr} {ns : List Str} {xs : List DV} : Rep F (.exc a C dd ns xs) v ↔ v = .ref a ∧ ∃ fs, F.fz dd = some (.xd fs) ∧ fs.map (·.1) = ns ∧ Reps F xs (fs.map (·.2)) := by
  constructor <;> (intro h; unfold Rep at *; exact h)
theorem rep_tup {v : V} {xs : List DV} : Rep F (.tup xs) v ↔ ∃ a vs, v = .ref a ∧ F.fz a = some (.tup vs) ∧ Reps F xs vs := by
  constructor <;> (intro h; unfold Rep at *; exact h)
theorem rep_lst {v : V} {xs : List DV} : Rep F (.lst xs) v ↔ ∃ a vs, v = .ref a ∧ F.fz a = some (.lst vs) ∧ Reps F xs vs := by
  constructor <;> (intro h; unfold Rep at *; exact h)
theorem rep_dic {v : V} {ks : List Key} {xs : List DV} : Rep F (.dic ks xs) v ↔ ∃ a kvs, v = .ref a ∧ F.fz a = some (.dK kvs) ∧ kvs.map (·.1) = ks ∧ Reps F xs (kvs.map (·.2)) := by
  constructor <;> (intro h; unfold Rep at *; exact h)
theorem rep_obj {v : V} {C : Addr} {ns : List Str} {xs : List DV} : Rep F (.obj C ns xs) v ↔ ∃ a dx fs, v = .ref a ∧ F.fz a = some (.ins C dx fs) ∧ fs.map (·.1) = ns ∧ Reps F xs (fs.map (·.2)) := by
  constructor <;> (intro h; unfold Rep at *; exact h)
theorem rep_bag {v : V} {a : Addr} : Rep F (.bag a) v ↔ v = .ref a ∧ BagAt F a := by
  constructor <;> (intro h; unfold Rep at *; exact h)
end reps

mutual
theorem Rep.mono {F F' : Wo} (h : Ext F F') : ∀ {d : DV} {v : V}, Rep F d v → Rep F' d v
  | .non, _, r => rep_non.mpr (rep_non.mp r)
  | .bl _, _, r => rep_bl.mpr (rep_bl.mp r)
  | .int _, _, r => rep_int.mpr (rep_int.mp r)
  | .str _, _, r => rep_str.mpr (rep_str.mp r)
  | .tup xs, _, r => by obtain ⟨a, vs, e, f, q⟩ := rep_tup.mp r; exact rep_tup.mpr ⟨a, vs, e, h.1 _ _ f, Reps.mono h q⟩
  | .lst xs, _, r => by obtain ⟨a, vs, e, f, q⟩ := rep_lst.mp r; exact rep_lst.mpr ⟨a, vs, e, h.1 _ _ f, Reps.mono h q⟩
  | .dic ks xs, _, r => by obtain ⟨a, vs, e, f, k, q⟩ := rep_dic.mp r; exact rep_dic.mpr ⟨a, vs, e, h.1 _ _ f, k, Reps.mono h q⟩
  | .obj C ns xs, _, r => by obtain ⟨a, dx, vs, e, f, k, q⟩ := rep_obj.mp r; exact rep_obj.mpr ⟨a, dx, vs, e, h.1 _ _ f, k, Reps.mono h q⟩
  | .bag a, _, r => by obtain ⟨e, q, cs, f, l, g⟩ := rep_bag.mp r; exact rep_bag.mpr ⟨e, q, cs, h.1 _ _ f, l, h.2.1 _ _ g⟩
  | .ty _, _, r => rep_ty.mpr (rep_ty.mp r)
  | .cls _, _, r => rep_cls.mpr (rep_cls.mp r)
  | .lsa a xs, _, r => by obtain ⟨e, vs, f, q⟩ := rep_lsa.mp r; exact rep_lsa.mpr ⟨e, vs, h.1 _ _ f, Reps.mono h q⟩
  | .osa a C ns xs, _, r => by obtain ⟨e, dx, vs, f, k, q⟩ := rep_osa.mp r; exact rep_osa.mpr ⟨e, dx, vs, h.1 _ _ f, k, Reps.mono h q⟩
  | .exc a C dd ns xs, _, r => by obtain ⟨e, vs, f, k, q⟩ := rep_exc.mp r; exact rep_exc.mpr ⟨e, vs, h.1 _ _ f, k, Reps.mono h q⟩
theorem Reps.mono {F F' : Wo} (h : Ext F F') : ∀ {ds : List DV} {vs : List V}, Reps F ds vs → Reps F' ds vs
  | [], _, r => reps_nil.mpr (reps_nil.mp r)
  | d :: ds, _, r => by obtain ⟨v, w, e, q, k⟩ := reps_cons.mp r; exact reps_cons.mpr ⟨v, w, e, Rep.mono h q, Reps.mono h k⟩
end


/-- a local: a value that stands still, or an object of this def's own making -/
inductive Lv where
  | val (d : DV)
  | own (d : DV)
abbrev DSt := List (Option Lv)

/-- a def's entry, and what stands loose beside the locals (a list that a comprehension builds) -/
structure Bs where
  F : Wo
  H : Hp
  L : Addr → Option HO := fun _ => none
def Bs.loose (B : Bs) (p : Addr) (o : HO) : Bs := ⟨B.F, B.H, fun a => if a = p then some o else B.L a⟩

/-- nothing that must stay stands there (a table of code objects may) -/
def Nw (H : Hp) (p : Addr) : Prop := ∀ o, H p = some o → ∃ ps, o = .tbl ps
theorem Nw.of {H : Hp} {p : Addr} (h : H p = none) : Nw H p := fun o e => nomatch h.symm.trans e
abbrev NoT (o : HO) : Prop := ∀ ps, o ≠ .tbl ps
structure Wd (B : Bs) (F : Wo) (H : Hp) : Prop where
  ext : Ext B.F F
  fz : ∀ a o, F.fz a = some o → H a = some o ∨ ((∃ kvs, o = .dK kvs) ∧ ∃ ob, H a = some (.frz ob o))
  ce : ∀ a f, F.ce a = some f → ∃ o, H a = some o ∧ f.p F.fz o
  nfz : ∀ a o, F.fz a = some o → B.F.fz a = some o ∨ Nw B.H a ∨ IsX o
  nce : ∀ a f, F.ce a = some f → B.F.ce a = some f
  fr : ∀ a o, B.H a = some o → NoT o → B.F.ce a = none → H a = some o ∨ (B.F.fz a = some o ∧ (∃ kvs, o = .dK kvs) ∧ ∃ ob, H a = some (.frz ob o))
  dj : ∀ a o, F.fz a = some o → F.ce a = none
  lo : ∀ a o, B.L a = some o → H a = some o ∧ Nw B.H a ∧ F.fz a = none ∧ F.ce a = none
  lk : ∀ a ob, F.lk a = some ob → ∃ kvs, F.fz a = some (.dK kvs) ∧ H a = some (.frz ob (.dK kvs))
  nt : ∀ a o, F.fz a = some o → NoT o
  lt : ∀ a o, B.L a = some o → NoT o ∧ ¬ IsX o

/-- an own object's content -/
def OwnAt (F : Wo) (H : Hp) (p : Addr) : DV → Prop
  | .lst ds => ∃ vs, H p = some (.lst vs) ∧ Reps F ds vs
  | .dic ks ds => ∃ kvs, H p = some (.dK kvs) ∧ kvs.map (·.1) = ks ∧ Reps F ds (kvs.map (·.2))
  | .obj C ns ds => ∃ dx fs, H p = some (.ins C dx fs) ∧ fs.map (·.1) = ns ∧ Reps F ds (fs.map (·.2))
  | .lsa a ds => p = a ∧ ∃ vs, H p = some (.lst vs) ∧ Reps F ds vs
  | .osa a C ns ds => p = a ∧ ∃ dx fs, H p = some (.ins C dx fs) ∧ fs.map (·.1) = ns ∧ Reps F ds (fs.map (·.2))
  | _ => False

theorem OwnAt.there {F : Wo} {H : Hp} {p : Addr} {d : DV} (h : OwnAt F H p d) : ∃ o, H p = some o := by
  cases d <;> first
    | (obtain ⟨vs, e, _⟩ := h; exact ⟨_, e⟩)
    | (obtain ⟨x, vs, e, _⟩ := h; exact ⟨_, e⟩)
    | (obtain ⟨_, x, vs, e, _⟩ := h; exact ⟨_, e⟩)
    | exact False.elim h
theorem OwnAt.keep {F F' : Wo} {H H' : Hp} {p : Addr} {d : DV} (h : OwnAt F H p d) (e : Ext F F') (k : ∀ o, H p = some o → H' p = some o) : OwnAt F' H' p d := by
  cases d <;> first
    | (obtain ⟨vs, z, r⟩ := h; exact ⟨vs, k _ z, r.mono e⟩)
    | (obtain ⟨vs, z, y, r⟩ := h; exact ⟨vs, k _ z, y, r.mono e⟩)
    | (obtain ⟨x, vs, z, y, r⟩ := h; exact ⟨x, vs, k _ z, y, r.mono e⟩)
    | (obtain ⟨x, vs, z, r⟩ := h; exact ⟨x, vs, k _ z, r.mono e⟩)
    | (obtain ⟨b, x, vs, z, y, r⟩ := h; exact ⟨b, x, vs, k _ z, y, r.mono e⟩)
    | exact False.elim h
/-- frozen where it stands -/
theorem OwnAt.freeze {F : Wo} {H : Hp} {p : Addr} {d : DV} (h : OwnAt F H p d) (hn : F.fz p = none) : ∃ o, H p = some o ∧ Rep (F.add p o) d (.ref p) := by
  have e : ∀ o, Ext F (F.add p o) := fun o => Ext.add hn
  cases d <;> first
    | (obtain ⟨vs, z, r⟩ := h; exact ⟨_, z, rep_lst.mpr ⟨p, vs, rfl, Wo.add_same, r.mono (e _)⟩⟩)
    | (obtain ⟨vs, z, y, r⟩ := h; exact ⟨_, z, rep_dic.mpr ⟨p, vs, rfl, Wo.add_same, y, r.mono (e _)⟩⟩)
    | (obtain ⟨x, vs, z, y, r⟩ := h; exact ⟨_, z, rep_obj.mpr ⟨p, x, vs, rfl, Wo.add_same, y, r.mono (e _)⟩⟩)
    | (obtain ⟨rfl, vs, z, r⟩ := h; exact ⟨_, z, rep_lsa.mpr ⟨rfl, vs, Wo.add_same, r.mono (e _)⟩⟩)
    | (obtain ⟨rfl, x, vs, z, y, r⟩ := h; exact ⟨_, z, rep_osa.mpr ⟨rfl, x, vs, Wo.add_same, y, r.mono (e _)⟩⟩)
    | exact False.elim h

structure RSt (B : Bs) (F : Wo) (ρ : DSt) (σ : St) (H : Hp) : Prop where
  val : ∀ (i : Nat) (d : DV), ρ[i]? = some (some (Lv.val d)) → ∃ v, σ[i]? = some (some v) ∧ Rep F d v
  own : ∀ (i : Nat) (d : DV), ρ[i]? = some (some (Lv.own d)) → ∃ p, σ[i]? = some (some (.ref p)) ∧ OwnAt F H p d ∧ Nw B.H p ∧ F.fz p = none ∧ F.ce p = none ∧ B.L p = none
  dis : ∀ (i j : Nat) (d e : DV) (p : Addr), i ≠ j → ρ[i]? = some (some (Lv.own d)) → ρ[j]? = some (some (Lv.own e)) → σ[i]? = some (some (.ref p)) → σ[j]? ≠ some (some (.ref p))
  len : ρ.length = σ.length

/-- a step that leaves the locals as they are -/
structure Stp (B : Bs) (F : Wo) (H : Hp) (F' : Wo) (H' : Hp) : Prop where
  wd : Wd B F' H'
  ext : Ext F F'
  st : ∀ ρ σ, RSt B F ρ σ H → RSt B F' ρ σ H'
theorem Stp.refl {B : Bs} {F : Wo} {H : Hp} (w : Wd B F H) : Stp B F H F H := ⟨w, Ext.refl F, fun _ _ r => r⟩
theorem Stp.trans {B : Bs} {F F1 F2 : Wo} {H H1 H2 : Hp} (a : Stp B F H F1 H1) (b : Stp B F1 H1 F2 H2) : Stp B F H F2 H2 :=
  ⟨b.wd, a.ext.trans b.ext, fun ρ σ r => b.st ρ σ (a.st ρ σ r)⟩

section
variable {B : Bs} {F F' : Wo} {H H' : Hp} {p : Addr} {o : HO} {ρ : DSt} {σ : St}
theorem Wd.start (F : Wo) (H : Hp) (h : ∀ a o, F.fz a = some o → H a = some o ∨ ((∃ kvs, o = .dK kvs) ∧ ∃ ob, H a = some (.frz ob o))) (k : ∀ a f, F.ce a = some f → ∃ o, H a = some o ∧ f.p F.fz o)
    (j : ∀ a o, F.fz a = some o → F.ce a = none) (l : ∀ a ob, F.lk a = some ob → ∃ kvs, F.fz a = some (.dK kvs) ∧ H a = some (.frz ob (.dK kvs))) (nt : ∀ a o, F.fz a = some o → NoT o) : Wd ⟨F, H, fun _ => none⟩ F H :=
  ⟨Ext.refl F, h, k, fun _ _ e => .inl e, fun _ _ e => e, fun _ _ e _ _ => .inl e, j, (fun _ _ e => nomatch e), l, nt, (fun _ _ e => nomatch e)⟩
theorem OwnAt.noT {d : DV} (h : OwnAt F H p d) (e : H p = some o) : NoT o ∧ ¬ IsX o := by
  cases d with
  | lst _ => obtain ⟨vs, z, _⟩ := h; cases z.symm.trans e; exact ⟨fun _ y => (by cases y), fun ⟨_, y⟩ => (by cases y)⟩
  | dic _ _ => obtain ⟨vs, z, _⟩ := h; cases z.symm.trans e; exact ⟨fun _ y => (by cases y), fun ⟨_, y⟩ => (by cases y)⟩
  | obj _ _ _ => obtain ⟨_, vs, z, _⟩ := h; cases z.symm.trans e; exact ⟨fun _ y => (by cases y), fun ⟨_, y⟩ => (by cases y)⟩
  | lsa _ _ => obtain ⟨_, vs, z, _⟩ := h; cases z.symm.trans e; exact ⟨fun _ y => (by cases y), fun ⟨_, y⟩ => (by cases y)⟩
  | osa _ _ _ _ => obtain ⟨_, _, vs, z, _⟩ := h; cases z.symm.trans e; exact ⟨fun _ y => (by cases y), fun ⟨_, y⟩ => (by cases y)⟩
  | _ => exact False.elim h
theorem Wd.new (w : Wd B F H) (hp : H p = none) : Nw B.H p := by
  intro o e
  by_cases z : NoT o
  · cases c : B.F.ce p with
    | none => rcases w.fr p o e z c with q | ⟨_, _, _, q⟩ <;> (rw [q] at hp; cases hp)
    | some f =>
      obtain ⟨u, h, _⟩ := w.ce p f (w.ext.2.1 p f c)
      rw [h] at hp; cases hp
  · exact Classical.not_forall_not.mp z
theorem Wd.nf (w : Wd B F H) (hp : H p = none) : F.fz p = none := by
  cases e : F.fz p with
  | none => rfl
  | some o => rcases w.fz p o e with h | ⟨_, _, h⟩ <;> (rw [h] at hp; cases hp)
theorem Wd.nc (w : Wd B F H) (hp : H p = none) : F.ce p = none := by
  cases e : F.ce p with
  | none => rfl
  | some f => obtain ⟨u, h, _⟩ := w.ce p f e; rw [h] at hp; cases hp
/-- a new object, frozen at once -/
theorem Wd.lay (w : Wd B F H) (hp : H p = none) (ho : NoT o := by intro _ z; cases z) : Stp B F H (F.add p o) (upd H p o) := by
  have nf := w.nf hp
  have ne : ∀ a u, H a = some u → a ≠ p := fun a u e z => by rw [z, hp] at e; cases e
  have x : Ext F (F.add p o) := Ext.add nf
  have kp : ∀ a u, H a = some u → upd H p o a = some u := fun a u e => (upd_ne (ne a u e)).trans e
  refine ⟨⟨w.ext.trans x, fun a u e => ?_, fun a f e => ?_, fun a u e => ?_, fun a f e => w.nce a f e, fun a u e n c => (w.fr a u e n c).imp (kp a u) (fun ⟨y, z, ob, q⟩ => ⟨y, z, ob, kp a _ q⟩), fun a u e => ?_, fun a u e => ?_, fun a ob e => let ⟨kvs, f, h⟩ := w.lk a ob e; ⟨kvs, x.1 _ _ f, kp _ _ h⟩, fun a u e => ?_, w.lt⟩, x, fun ρ σ r => ⟨fun i d e => ?_, fun i d e => ?_, r.dis, r.len⟩⟩
  · by_cases c : a = p
    · subst c; rw [Wo.add_same] at e; cases e; exact .inl upd_same
    · rw [Wo.add_ne c] at e
      rcases w.fz a u e with h | ⟨q, ob, h⟩
      · exact .inl (kp _ _ h)
      · exact .inr ⟨q, ob, kp _ _ h⟩
  · obtain ⟨u, h, q⟩ := w.ce a f e; exact ⟨u, kp _ _ h, f.mono _ _ _ (fun a u e _ => x.1 a u e) q⟩
  · by_cases c : a = p
    · subst c; exact .inr (.inl (w.new hp))
    · rw [Wo.add_ne c] at e; exact w.nfz a u e
  · by_cases c : a = p
    · subst c; exact w.nc hp
    · rw [Wo.add_ne c] at e; exact w.dj a u e
  · obtain ⟨h, b0, n1, n2⟩ := w.lo a u e
    exact ⟨kp _ _ h, b0, by rw [Wo.add_ne (ne a u h)]; exact n1, n2⟩
  · by_cases c : a = p
    · subst c; rw [Wo.add_same] at e; cases e; exact ho
    · rw [Wo.add_ne c] at e; exact w.nt a u e
  · obtain ⟨v, h, q⟩ := r.val i d e; exact ⟨v, h, q.mono x⟩
  · obtain ⟨a, h, q, b0, n1, n2, n3⟩ := r.own i d e
    obtain ⟨u, hu⟩ := q.there
    exact ⟨a, h, q.keep x (kp a), b0, by rw [Wo.add_ne (ne a u hu)]; exact n1, n2, n3⟩
/-- a new object that stays loose (not frozen yet) -/
theorem Wd.loose (w : Wd B F H) (hp : H p = none) : Stp B F H F (upd H p o) := by
  have ne : ∀ a u, H a = some u → a ≠ p := fun a u e z => by rw [z, hp] at e; cases e
  have kp : ∀ a u, H a = some u → upd H p o a = some u := fun a u e => (upd_ne (ne a u e)).trans e
  refine ⟨⟨w.ext, fun a u e => ?_, fun a f e => ?_, w.nfz, w.nce, fun a u e n c => (w.fr a u e n c).imp (kp a u) (fun ⟨y, z, ob, q⟩ => ⟨y, z, ob, kp a _ q⟩), w.dj, fun a u e => ⟨kp _ _ (w.lo a u e).1, (w.lo a u e).2⟩, fun a ob e => let ⟨kvs, f, h⟩ := w.lk a ob e; ⟨kvs, f, kp _ _ h⟩, w.nt, w.lt⟩, Ext.refl F, fun ρ σ r => ⟨r.val, fun i d e => ?_, r.dis, r.len⟩⟩
  · rcases w.fz a u e with h | ⟨q, ob, h⟩
    · exact .inl (kp _ _ h)
    · exact .inr ⟨q, ob, kp _ _ h⟩
  · obtain ⟨u, h, q⟩ := w.ce a f e; exact ⟨u, kp _ _ h, q⟩
  · obtain ⟨a, h, q, b0, n1, n2, n3⟩ := r.own i d e
    exact ⟨a, h, q.keep (Ext.refl F) (kp a), b0, n1, n2, n3⟩
/-- an object that is loose (known to nobody) is changed -/
theorem Wd.loose_set (w : Wd B F H) (hb : Nw B.H p) (h1 : F.fz p = none) (h2 : F.ce p = none) (h3 : B.L p = none) : Wd B F (upd H p o) := by
  refine ⟨w.ext, fun a u e => ?_, fun a f e => ?_, w.nfz, w.nce, fun a u e nt c => ?_, w.dj, fun a u e => ?_, fun a ob e => let ⟨kvs, f, h⟩ := w.lk a ob e; ⟨kvs, f, (upd_ne fun z => by rw [z, h1] at f; cases f).trans h⟩, w.nt, w.lt⟩
  · have n : a ≠ p := fun z => by rw [z, h1] at e; cases e
    rcases w.fz a u e with h | ⟨q, ob, h⟩
    · exact .inl ((upd_ne n).trans h)
    · exact .inr ⟨q, ob, (upd_ne n).trans h⟩
  · have n : a ≠ p := fun z => by rw [z, h2] at e; cases e
    obtain ⟨u, h, q⟩ := w.ce a f e; exact ⟨u, (upd_ne n).trans h, q⟩
  · have n : a ≠ p := fun z => by rw [z] at e; obtain ⟨ps, y⟩ := hb u e; exact nt ps y
    exact (w.fr a u e nt c).imp (fun q => (upd_ne n).trans q) (fun ⟨y, z, ob, q⟩ => ⟨y, z, ob, (upd_ne n).trans q⟩)
  · have n : a ≠ p := fun z => by rw [z, h3] at e; cases e
    exact ⟨(upd_ne n).trans (w.lo a u e).1, (w.lo a u e).2⟩
/-- a call's step, as the caller sees it -/
theorem Wd.call (w : Wd B F H) (c : Wd ⟨F, H, fun _ => none⟩ F' H') : Stp B F H F' H' := by
  have x : Ext F F' := c.ext
  have st : ∀ a u, H a = some u → NoT u ∧ ¬ IsX u → F.fz a = none → F.ce a = none → H' a = some u ∧ F'.fz a = none ∧ F'.ce a = none := fun a u e n f1 f2 => by
    have h' : H' a = some u := (c.fr a u e n.1 f2).elim id fun k => absurd (k.1.symm.trans f1) (fun y => nomatch y)
    refine ⟨h', ?_, ?_⟩
    · cases k : F'.fz a with
      | none => rfl
      | some o =>
        rcases c.nfz a o k with y | y | y
        · rw [show F.fz a = none from f1] at y; cases y
        · obtain ⟨ps, z⟩ := y u e; exact (n.1 ps z).elim
        · rcases c.fz a o k with q | ⟨⟨kvs, q⟩, _⟩
          · rw [h'] at q; cases q; exact (n.2 y).elim
          · obtain ⟨φ, z⟩ := y; rw [q] at z; cases z
    · cases k : F'.ce a with
      | none => rfl
      | some f =>
        have y := c.nce a f k
        rw [show F.ce a = none from f2] at y; cases y
  have nw : ∀ a, Nw H a → B.F.ce a = none → Nw B.H a := fun a h fc u e0 => by
    by_cases nt : NoT u
    · rcases w.fr a u e0 nt fc with k | ⟨_, ⟨kvs, hk⟩, ob, k⟩
      · obtain ⟨ps, z⟩ := h u k; exact (nt ps z).elim
      · obtain ⟨ps, z⟩ := h _ k; cases z
    · exact Classical.not_forall_not.mp nt
  refine ⟨⟨w.ext.trans x, c.fz, c.ce, fun a o e => ?_, fun a f e => ?_, fun a o e nt z => ?_, c.dj, fun a o e => ?_, c.lk, c.nt, w.lt⟩, x, fun ρ σ r => ⟨fun i d e => ?_, fun i d e => ?_, r.dis, r.len⟩⟩
  · rcases c.nfz a o e with h | h | h
    · exact w.nfz a o h
    · refine .inr (.inl (nw a h ?_))
      cases q : B.F.ce a with
      | none => rfl
      | some f => have := c.dj a o e; rw [x.2.1 a f (w.ext.2.1 a f q)] at this; cases this
    · exact .inr (.inr h)
  · exact w.nce a f (c.nce a f e)
  · have fc : F.ce a = none := by
      cases q : F.ce a with
      | none => rfl
      | some f =>
        have h := w.nce a f q
        rw [z] at h; cases h
    rcases w.fr a o e nt z with h | ⟨h1, h2, ob, h3⟩
    · rcases c.fr a o h nt fc with k | ⟨k1, k2, k3⟩
      · exact .inl k
      · rcases w.nfz a o k1 with y | y | ⟨φ, y⟩
        · exact .inr ⟨y, k2, k3⟩
        · obtain ⟨ps, y⟩ := y o e; exact (nt ps y).elim
        · obtain ⟨kvs, k2⟩ := k2; rw [y] at k2; cases k2
    · rcases c.fr a _ h3 (fun _ y => by cases y) fc with k | ⟨_, ⟨kvs, k⟩, _⟩
      · exact .inr ⟨h1, h2, ob, k⟩
      · cases k
  · obtain ⟨h, b0, n1, n2⟩ := w.lo a o e
    obtain ⟨k1, k2, k3⟩ := st a o h (w.lt a o e) n1 n2
    exact ⟨k1, b0, k2, k3⟩
  · obtain ⟨v, h, q⟩ := r.val i d e; exact ⟨v, h, q.mono x⟩
  · obtain ⟨a, h, q, b0, n1, n2, n3⟩ := r.own i d e
    obtain ⟨u, hu⟩ := q.there
    obtain ⟨k1, k2, k3⟩ := st a u hu (q.noT hu) n1 n2
    exact ⟨a, h, q.keep x (fun o z => by rw [hu] at z; cases z; exact k1), b0, k2, k3, n3⟩
/-- a frozen dict is known to its object from now on -/
theorem Wd.lock {kvs : List (Key × V)} {ob : Obj} (w : Wd B F H) (hf : F.fz p = some (.dK kvs)) (hp : H p = some (.dK kvs)) : Stp B F H (F.seal p ob) (upd H p (.frz ob (.dK kvs))) := by
  have hc := w.dj p _ hf
  have xx : Ext F (F.seal p ob) := ⟨fun _ _ e => e, fun _ _ e => e, fun a b e => by
    show (if a = p then some ob else F.lk a) = some b
    by_cases c : a = p
    · obtain ⟨_, _, h⟩ := w.lk a b e
      rw [c, hp] at h; cases h
    · rw [if_neg c]; exact e⟩
  refine ⟨⟨w.ext.trans xx, fun a u e => ?_, fun a f e => ?_, w.nfz, w.nce, fun a u e nt c => ?_, w.dj, fun a u e => ?_, fun a b e => ?_, w.nt, w.lt⟩, xx, fun ρ σ r => ⟨fun i d e => (r.val i d e).imp fun v q => ⟨q.1, q.2.mono xx⟩, fun i d e => ?_, r.dis, r.len⟩⟩
  · replace e : F.fz a = some u := e
    by_cases c : a = p
    · subst c; rw [hf] at e; cases e; exact .inr ⟨⟨_, rfl⟩, ob, upd_same⟩
    · rw [upd_ne c]; exact w.fz a u e
  · replace e : F.ce a = some f := e
    have n : a ≠ p := fun z => by rw [z, hc] at e; cases e
    rw [upd_ne n]; exact w.ce a f e
  · by_cases n : a = p
    · subst n
      rcases w.fr a u e nt c with q | ⟨_, _, ob', q⟩
      · rw [hp] at q; cases q
        rcases w.nfz a _ hf with y | y | ⟨φ, y⟩
        · exact .inr ⟨y, ⟨_, rfl⟩, ob, upd_same⟩
        · obtain ⟨ps, y⟩ := y _ e; exact (nt ps y).elim
        · cases y
      · rw [hp] at q; cases q
    · rw [upd_ne n]; exact w.fr a u e nt c
  · obtain ⟨h, b0, n1, n2⟩ := w.lo a u e
    have n : a ≠ p := fun z => by rw [z, hf] at n1; cases n1
    exact ⟨(upd_ne n).trans h, b0, n1, n2⟩
  · replace e : (if a = p then some ob else F.lk a) = some b := e
    by_cases c : a = p
    · rw [if_pos c] at e; cases e; subst c; exact ⟨kvs, hf, upd_same⟩
    · rw [if_neg c] at e
      obtain ⟨k, f, h⟩ := w.lk a b e
      exact ⟨k, f, (upd_ne c).trans h⟩
  · obtain ⟨a, h, q, b0, n1, n2, n3⟩ := r.own i d e
    have n : a ≠ p := fun z => by rw [z, hf] at n1; cases n1
    exact ⟨a, h, q.keep xx fun u k => (upd_ne n).trans k, b0, n1, n2, n3⟩
/-- it was locked already -/
theorem Wd.sealed {kvs : List (Key × V)} {ob : Obj} (w : Wd B F H) (hf : F.fz p = some (.dK kvs)) (hp : H p = some (.frz ob (.dK kvs))) : Stp B F H (F.seal p ob) H := by
  have xx : Ext F (F.seal p ob) := ⟨fun _ _ e => e, fun _ _ e => e, fun a b e => by
    show (if a = p then some ob else F.lk a) = some b
    by_cases c : a = p
    · obtain ⟨_, _, h⟩ := w.lk a b e
      rw [c, hp] at h; cases h
      rw [if_pos c]
    · rw [if_neg c]; exact e⟩
  refine ⟨⟨w.ext.trans xx, w.fz, w.ce, w.nfz, w.nce, w.fr, w.dj, w.lo, fun a b e => ?_, w.nt, w.lt⟩, xx, fun ρ σ r => ⟨fun i d e => (r.val i d e).imp fun v q => ⟨q.1, q.2.mono xx⟩, fun i d e => ?_, r.dis, r.len⟩⟩
  · have e : (if a = p then some ob else F.lk a) = some b := e
    by_cases c : a = p
    · rw [if_pos c] at e; cases e; subst c; exact ⟨kvs, hf, hp⟩
    · rw [if_neg c] at e; exact w.lk a b e
  · obtain ⟨a, h, q, b0, n1, n2, n3⟩ := r.own i d e
    exact ⟨a, h, q.keep xx fun u k => k, b0, n1, n2, n3⟩
/-- an own local is frozen -/
theorem Wd.freeze (w : Wd B F H) (r : RSt B F ρ σ H) {i : Nat} {d : DV} (e : ρ[i]? = some (some (Lv.own d))) :
    ∃ p o, σ[i]? = some (some (.ref p)) ∧ Wd B (F.add p o) H ∧ Ext F (F.add p o) ∧ RSt B (F.add p o) (ρ.set i (some (Lv.val d))) σ H ∧ Rep (F.add p o) d (.ref p) := by
  obtain ⟨p, hs, q, b0, n1, n2, n3⟩ := r.own i d e
  obtain ⟨o, ho, rp⟩ := q.freeze n1
  have x : Ext F (F.add p o) := Ext.add n1
  have hi : i < ρ.length := (List.getElem?_eq_some_iff.mp e).1
  refine ⟨p, o, hs, ⟨w.ext.trans x, fun a u z => ?_, fun a f z => (w.ce a f z).imp fun u h => ⟨h.1, f.mono _ _ _ (fun a u e _ => x.1 a u e) h.2⟩, fun a u z => ?_, w.nce, w.fr, fun a u z => ?_, fun a u z => ?_, fun a ob z => let ⟨kvs, f, h⟩ := w.lk a ob z; ⟨kvs, x.1 _ _ f, h⟩, fun a u z => ?_, w.lt⟩, x, ⟨fun j f z => ?_, fun j f z => ?_, fun j k f g a hjk z1 z2 => ?_, by rw [List.length_set]; exact r.len⟩, rp⟩
  · by_cases c : a = p
    · subst c; rw [Wo.add_same] at z; cases z; exact .inl ho
    · rw [Wo.add_ne c] at z; exact w.fz a u z
  · by_cases c : a = p
    · subst c; exact .inr (.inl b0)
    · rw [Wo.add_ne c] at z; exact w.nfz a u z
  · by_cases c : a = p
    · subst c; exact n2
    · rw [Wo.add_ne c] at z; exact w.dj a u z
  · obtain ⟨h, b1, m1, m2⟩ := w.lo a u z
    have nap : a ≠ p := fun k => by rw [k, n3] at z; cases z
    exact ⟨h, b1, by rw [Wo.add_ne nap]; exact m1, m2⟩
  · by_cases c : a = p
    · subst c; rw [Wo.add_same] at z; cases z; exact (q.noT ho).1
    · rw [Wo.add_ne c] at z; exact w.nt a u z
  · by_cases c : j = i
    · subst c
      rw [List.getElem?_set_self hi] at z
      cases z
      exact ⟨_, hs, rp⟩
    · rw [List.getElem?_set_ne (Ne.symm c)] at z
      obtain ⟨v, h, y⟩ := r.val j f z
      exact ⟨v, h, y.mono x⟩
  · by_cases c : j = i
    · subst c
      rw [List.getElem?_set_self hi] at z
      cases z
    · rw [List.getElem?_set_ne (Ne.symm c)] at z
      obtain ⟨a, h, y, b1, m1, m2, m3⟩ := r.own j f z
      have nap : a ≠ p := fun k => r.dis i j d f p (Ne.symm c) e z hs (by rw [← k]; exact h)
      exact ⟨a, h, y.keep x fun _ k => k, b1, by rw [Wo.add_ne nap]; exact m1, m2, m3⟩
  · by_cases c : j = i
    · subst c; rw [List.getElem?_set_self hi] at z1; cases z1
    · by_cases c2 : k = i
      · subst c2; rw [List.getElem?_set_self hi] at z2; cases z2
      · rw [List.getElem?_set_ne (Ne.symm c)] at z1
        rw [List.getElem?_set_ne (Ne.symm c2)] at z2
        exact r.dis j k f g a hjk z1 z2
/-- a slot takes a value -/
theorem RSt.put (r : RSt B F ρ σ H) {i : Nat} {d : DV} {v : V} (hi : i < ρ.length) (h : Rep F d v) : RSt B F (ρ.set i (some (Lv.val d))) (σ.set i (some v)) H := by
  have hi2 : i < σ.length := by rw [← r.len]; exact hi
  refine ⟨fun j f z => ?_, fun j f z => ?_, fun j k f g a hjk z1 z2 => ?_, by rw [List.length_set, List.length_set]; exact r.len⟩
  · by_cases c : j = i
    · subst c
      rw [List.getElem?_set_self hi] at z
      cases z
      exact ⟨v, List.getElem?_set_self hi2, h⟩
    · rw [List.getElem?_set_ne (Ne.symm c)] at z
      rw [List.getElem?_set_ne (Ne.symm c)]
      exact r.val j f z
  · by_cases c : j = i
    · subst c; rw [List.getElem?_set_self hi] at z; cases z
    · rw [List.getElem?_set_ne (Ne.symm c)] at z
      rw [List.getElem?_set_ne (Ne.symm c)]
      exact r.own j f z
  · by_cases c : j = i
    · subst c; rw [List.getElem?_set_self hi] at z1; cases z1
    · by_cases c2 : k = i
      · subst c2; rw [List.getElem?_set_self hi] at z2; cases z2
      · rw [List.getElem?_set_ne (Ne.symm c)] at z1 ⊢
        rw [List.getElem?_set_ne (Ne.symm c2)] at z2 ⊢
        exact r.dis j k f g a hjk z1 z2
/-- a slot takes a loose object -/
theorem RSt.putOwn (r : RSt B F ρ σ H) {i : Nat} {d : DV} (hi : i < ρ.length) (h : OwnAt F H p d) (b0 : Nw B.H p) (n1 : F.fz p = none) (n2 : F.ce p = none) (n3 : B.L p = none)
    (hd : ∀ (j : Nat) (e : DV), j ≠ i → ρ[j]? = some (some (Lv.own e)) → σ[j]? ≠ some (some (.ref p))) : RSt B F (ρ.set i (some (Lv.own d))) (σ.set i (some (.ref p))) H := by
  have hi2 : i < σ.length := by rw [← r.len]; exact hi
  refine ⟨fun j f z => ?_, fun j f z => ?_, fun j k f g a hjk z1 z2 y1 => ?_, by rw [List.length_set, List.length_set]; exact r.len⟩
  · by_cases c : j = i
    · subst c; rw [List.getElem?_set_self hi] at z; cases z
    · rw [List.getElem?_set_ne (Ne.symm c)] at z
      rw [List.getElem?_set_ne (Ne.symm c)]
      exact r.val j f z
  · by_cases c : j = i
    · subst c
      rw [List.getElem?_set_self hi] at z
      cases z
      exact ⟨p, List.getElem?_set_self hi2, h, b0, n1, n2, n3⟩
    · rw [List.getElem?_set_ne (Ne.symm c)] at z
      rw [List.getElem?_set_ne (Ne.symm c)]
      exact r.own j f z
  · by_cases c : j = i
    · subst c
      rw [List.getElem?_set_self hi2] at y1
      cases y1
      rw [List.getElem?_set_ne (Ne.symm (Ne.symm hjk))] at z2 ⊢
      exact hd k g (Ne.symm hjk) z2
    · rw [List.getElem?_set_ne (Ne.symm c)] at z1 y1
      by_cases c2 : k = i
      · subst c2
        rw [List.getElem?_set_self hi2]
        intro q
        cases q
        exact hd j f c z1 y1
      · rw [List.getElem?_set_ne (Ne.symm c2)] at z2 ⊢
        exact r.dis j k f g a hjk z1 z2 y1
/-- an own local's object is changed -/
theorem RSt.turn (w : Wd B F H) (r : RSt B F ρ σ H) {i : Nat} {d d' : DV} (e : ρ[i]? = some (some (Lv.own d))) (hs : σ[i]? = some (some (.ref p))) (ha : OwnAt F (upd H p o) p d') :
    Wd B F (upd H p o) ∧ RSt B F (ρ.set i (some (Lv.own d'))) σ (upd H p o) := by
  obtain ⟨a, h, q, b0, n1, n2, n3⟩ := r.own i d e
  rw [hs] at h
  cases h
  have hi : i < ρ.length := (List.getElem?_eq_some_iff.mp e).1
  refine ⟨w.loose_set b0 n1 n2 n3, ⟨fun j f z => ?_, fun j f z => ?_, fun j k f g a hjk z1 z2 y1 => ?_, by rw [List.length_set]; exact r.len⟩⟩
  · by_cases c : j = i
    · subst c; rw [List.getElem?_set_self hi] at z; cases z
    · rw [List.getElem?_set_ne (Ne.symm c)] at z; exact r.val j f z
  · by_cases c : j = i
    · subst c
      rw [List.getElem?_set_self hi] at z
      cases z
      exact ⟨p, hs, ha, b0, n1, n2, n3⟩
    · rw [List.getElem?_set_ne (Ne.symm c)] at z
      obtain ⟨a, h, y, b1, m1, m2, m3⟩ := r.own j f z
      have nap : a ≠ p := fun k => r.dis i j d f p (Ne.symm c) e z hs (by rw [← k]; exact h)
      exact ⟨a, h, y.keep (Ext.refl F) fun u k => (upd_ne nap).trans k, b1, m1, m2, m3⟩
  · have z1' : ∃ f', ρ[j]? = some (some (Lv.own f')) := by
      by_cases c : j = i
      · subst c; exact ⟨d, e⟩
      · rw [List.getElem?_set_ne (Ne.symm c)] at z1; exact ⟨f, z1⟩
    have z2' : ∃ f', ρ[k]? = some (some (Lv.own f')) := by
      by_cases c : k = i
      · subst c; exact ⟨d, e⟩
      · rw [List.getElem?_set_ne (Ne.symm c)] at z2; exact ⟨g, z2⟩
    obtain ⟨f', z1'⟩ := z1'
    obtain ⟨g', z2'⟩ := z2'
    exact r.dis j k f' g' a hjk z1' z2' y1
theorem Wd.nl (w : Wd B F H) (hp : H p = none) : B.L p = none := by
  cases e : B.L p with
  | none => rfl
  | some o => rw [(w.lo p o e).1] at hp; cases hp
/-- a new loose object: the base knows it -/
theorem Wd.loosen (w : Wd B F H) (hp : H p = none) (ho : NoT o ∧ ¬ IsX o := by exact ⟨fun _ y => (by cases y), fun ⟨_, y⟩ => (by cases y)⟩) : Wd (B.loose p o) F (upd H p o) ∧ ∀ ρ σ, RSt B F ρ σ H → RSt (B.loose p o) F ρ σ (upd H p o) := by
  have s := w.loose (o := o) hp
  refine ⟨⟨s.wd.ext, s.wd.fz, s.wd.ce, s.wd.nfz, s.wd.nce, s.wd.fr, s.wd.dj, fun a u e => ?_, s.wd.lk, s.wd.nt, fun a u e => ?_⟩, fun ρ σ r => ⟨(s.st ρ σ r).val, fun i d e => ?_, r.dis, r.len⟩⟩
  · by_cases c : a = p
    · subst c
      have e : (if a = a then some o else B.L a) = some u := e
      rw [if_pos rfl] at e; cases e
      exact ⟨upd_same, w.new hp, w.nf hp, w.nc hp⟩
    · have e : (if a = p then some o else B.L a) = some u := e
      rw [if_neg c] at e
      exact s.wd.lo a u e
  · have e : (if a = p then some o else B.L a) = some u := e
    by_cases c : a = p
    · rw [if_pos c] at e; cases e; exact ho
    · rw [if_neg c] at e; exact w.lt a u e
  · obtain ⟨a, h, q, b0, n1, n2, n3⟩ := (s.st ρ σ r).own i d e
    obtain ⟨a', h', q', _⟩ := r.own i d e
    rw [h] at h'; cases h'
    obtain ⟨u, hu⟩ := q'.there
    have c : a ≠ p := fun z => by rw [z, hp] at hu; cases hu
    exact ⟨a, h, q, b0, n1, n2, by show (if a = p then some o else B.L a) = none; rw [if_neg c]; exact n3⟩
/-- a loose object is changed -/
theorem Wd.reloose {u : HO} (w : Wd (B.loose p o) F H) (ho : NoT u ∧ ¬ IsX u := by exact ⟨fun _ y => (by cases y), fun ⟨_, y⟩ => (by cases y)⟩) : Wd (B.loose p u) F (upd H p u) ∧ ∀ ρ σ, RSt (B.loose p o) F ρ σ H → RSt (B.loose p u) F ρ σ (upd H p u) := by
  have hl : (B.loose p o).L p = some o := if_pos rfl
  obtain ⟨hp, b0, n1, n2⟩ := w.lo p o hl
  refine ⟨⟨w.ext, fun a x e => ?_, fun a f e => ?_, w.nfz, w.nce, fun a x e nt c => ?_, w.dj, fun a x e => ?_, fun a ob e => let ⟨kvs, f, h⟩ := w.lk a ob e; ⟨kvs, f, (upd_ne fun z => by rw [z, n1] at f; cases f).trans h⟩, w.nt, fun a x e => ?_⟩, fun ρ σ r => ⟨r.val, fun i d e => ?_, r.dis, r.len⟩⟩
  · have n : a ≠ p := fun z => by rw [z, n1] at e; cases e
    rw [upd_ne n]; exact w.fz a x e
  · have n : a ≠ p := fun z => by rw [z, n2] at e; cases e
    rw [upd_ne n]; exact w.ce a f e
  · have n : a ≠ p := fun z => by rw [z] at e; obtain ⟨ps, y⟩ := b0 x e; exact nt ps y
    rw [upd_ne n]; exact w.fr a x e nt c
  · by_cases n : a = p
    · subst n
      have e : (if a = a then some u else B.L a) = some x := e
      rw [if_pos rfl] at e; cases e
      exact ⟨upd_same, b0, n1, n2⟩
    · have e : (if a = p then some u else B.L a) = some x := e
      rw [if_neg n] at e
      have := w.lo a x (by show (if a = p then some o else B.L a) = some x; rw [if_neg n]; exact e)
      exact ⟨(upd_ne n).trans this.1, this.2⟩
  · have e : (if a = p then some u else B.L a) = some x := e
    by_cases n : a = p
    · rw [if_pos n] at e; cases e; exact ho
    · rw [if_neg n] at e; exact w.lt a x (by show (if a = p then some o else B.L a) = some x; rw [if_neg n]; exact e)
  · obtain ⟨a, h, q, c0, m1, m2, m3⟩ := r.own i d e
    have m3 : (if a = p then some o else B.L a) = none := m3
    have n : a ≠ p := fun z => by rw [if_pos z] at m3; cases m3
    rw [if_neg n] at m3
    exact ⟨a, h, q.keep (Ext.refl F) fun u k => (upd_ne n).trans k, c0, m1, m2, by show (if a = p then some u else B.L a) = none; rw [if_neg n]; exact m3⟩
/-- a loose object is frozen -/
theorem Wd.fix (w : Wd (B.loose p o) F H) (hn : B.L p = none) : Wd B (F.add p o) H ∧ Ext F (F.add p o) ∧ ∀ ρ σ, RSt (B.loose p o) F ρ σ H → RSt B (F.add p o) ρ σ H := by
  have hl : (B.loose p o).L p = some o := if_pos rfl
  obtain ⟨hp, b0, n1, n2⟩ := w.lo p o hl
  have x : Ext F (F.add p o) := Ext.add n1
  refine ⟨⟨w.ext.trans x, fun a u z => ?_, fun a f z => (w.ce a f z).imp fun u h => ⟨h.1, f.mono _ _ _ (fun a u e _ => x.1 a u e) h.2⟩, fun a u z => ?_, w.nce, w.fr, fun a u z => ?_, fun a u z => ?_, fun a ob z => let ⟨kvs, f, h⟩ := w.lk a ob z; ⟨kvs, x.1 _ _ f, h⟩, fun a u z => ?_, fun a u z => ?_⟩, x, fun ρ σ r => ⟨fun i d e => ?_, fun i d e => ?_, r.dis, r.len⟩⟩
  · by_cases c : a = p
    · subst c; rw [Wo.add_same] at z; cases z; exact .inl hp
    · rw [Wo.add_ne c] at z; exact w.fz a u z
  · by_cases c : a = p
    · subst c; exact .inr (.inl b0)
    · rw [Wo.add_ne c] at z; exact w.nfz a u z
  · by_cases c : a = p
    · subst c; exact n2
    · rw [Wo.add_ne c] at z; exact w.dj a u z
  · have n : a ≠ p := fun c => by rw [c, hn] at z; cases z
    obtain ⟨h, b1, m1, m2⟩ := w.lo a u (by show (if a = p then some o else B.L a) = some u; rw [if_neg n]; exact z)
    exact ⟨h, b1, by rw [Wo.add_ne n]; exact m1, m2⟩
  · by_cases c : a = p
    · subst c; rw [Wo.add_same] at z; cases z; exact (w.lt a _ hl).1
    · rw [Wo.add_ne c] at z; exact w.nt a u z
  · have n : a ≠ p := fun c => by rw [c, hn] at z; cases z
    exact w.lt a u (by show (if a = p then some o else B.L a) = some u; rw [if_neg n]; exact z)
  · obtain ⟨v, h, q⟩ := r.val i d e; exact ⟨v, h, q.mono x⟩
  · obtain ⟨a, h, q, c0, m1, m2, m3⟩ := r.own i d e
    have m3 : (if a = p then some o else B.L a) = none := m3
    have n : a ≠ p := fun z => by rw [if_pos z] at m3; cases m3
    rw [if_neg n] at m3
    exact ⟨a, h, q.keep x fun _ k => k, c0, by rw [Wo.add_ne n]; exact m1, m2, m3⟩
/-- slots are forgotten -/
theorem RSt.drop (r : RSt B F ρ σ H) (i : Nat) : RSt B F (ρ.set i none) σ H := by
  have key : ∀ {j : Nat} {x : Lv}, (ρ.set i none)[j]? = some (some x) → ρ[j]? = some (some x) := fun {j x} z => by
    by_cases c : j = i
    · subst c
      by_cases hi : j < ρ.length
      · rw [List.getElem?_set_self hi] at z; cases z
      · rw [List.getElem?_eq_none (by rw [List.length_set]; omega)] at z; cases z
    · rw [List.getElem?_set_ne (Ne.symm c)] at z; exact z
  exact ⟨fun j f z => r.val j f (key z), fun j f z => r.own j f (key z), fun j k f g a h z1 z2 => r.dis j k f g a h (key z1) (key z2), by rw [List.length_set]; exact r.len⟩
end
end DL

namespace DL
open PySem L2

/-- a def's entry, and what is wanted of an error that leaves a part of its body: over the heap (W), over data (w) -/
structure Zx where
  F : Wo
  H : Hp
  W : L2.WX
  w : Addr → List Str → List DV → DSt → Prop
  link : ∀ (L : Addr → Option HO) F' H' ρ' σ' C dd fs ds, Wd ⟨F, H, L⟩ F' H' → RSt ⟨F, H, L⟩ F' ρ' σ' H' → F'.fz dd = some (.xd fs) → Reps F' ds (fs.map (·.2)) → w C (fs.map (·.1)) ds ρ' → W (.ref C) (some dd) σ' H'
/-- where nothing is let out -/
def Zx.z0 (F : Wo) (H : Hp) : Zx := ⟨F, H, fun _ _ _ _ => False, fun _ _ _ _ => False, fun _ _ _ _ _ _ _ _ _ _ _ _ _ z => z⟩
def Zx.b (Z : Zx) (L : Addr → Option HO) : Bs := ⟨Z.F, Z.H, L⟩
abbrev AE := DSt → (DV → DSt → Prop) → Prop
abbrev AT := DSt → (Bool → DSt → Prop) → Prop
abbrev AA := DSt → (List DV → DSt → Prop) → Prop

/- (one step each, not nested ones: the terms stay small) -/
inductive TDi (Z : Zx) (a : AE) (σ : St) (H : Hp) (Q : VK) : Prop
  | mk (L : Addr → Option HO) (F : Wo) (ρ : DSt) (Q' : DV → DSt → Prop) (w : Wd (Z.b L) F H) (r : RSt (Z.b L) F ρ σ H) (q : a ρ Q')
    (k : ∀ F' H' ρ' d v, Wd (Z.b L) F' H' → Ext F F' → RSt (Z.b L) F' ρ' σ H' → Rep F' d v → Q' d ρ' → Q v H') : TDi Z a σ H Q
def tD (Z : Zx) (a : AE) : TE := fun σ H Q => TDi Z a σ H Q
inductive TTi (Z : Zx) (a : AT) (σ : St) (H : Hp) (Q : Bool → Hp → Prop) : Prop
  | mk (L : Addr → Option HO) (F : Wo) (ρ : DSt) (Q' : Bool → DSt → Prop) (w : Wd (Z.b L) F H) (r : RSt (Z.b L) F ρ σ H) (q : a ρ Q')
    (k : ∀ F' H' ρ' b, Wd (Z.b L) F' H' → Ext F F' → RSt (Z.b L) F' ρ' σ H' → Q' b ρ' → Q b H') : TTi Z a σ H Q
def tDT (Z : Zx) (a : AT) : TT := fun σ H Q => TTi Z a σ H Q
inductive TAi (Z : Zx) (a : AA) (σ : St) (H : Hp) (Q : List V → Hp → Prop) : Prop
  | mk (L : Addr → Option HO) (F : Wo) (ρ : DSt) (Q' : List DV → DSt → Prop) (w : Wd (Z.b L) F H) (r : RSt (Z.b L) F ρ σ H) (q : a ρ Q')
    (k : ∀ F' H' ρ' ds vs, Wd (Z.b L) F' H' → Ext F F' → RSt (Z.b L) F' ρ' σ H' → Reps F' ds vs → Q' ds ρ' → Q vs H') : TAi Z a σ H Q
def tDA (Z : Zx) (a : AA) : TA := fun σ H Q => TAi Z a σ H Q

structure DE (Z : Zx) (X : Cx) (e : Expr) (a : AE) : Prop where
  pe : PE X e (tD Z a)
structure DT (Z : Zx) (X : Cx) (e : Expr) (a : AT) : Prop where
  pt : PT X e (tDT Z a)
/-- a test whatever its whole is -/
structure DW (Z : Zx) (X : Cx) (e : Expr) (a : AT) : Prop where
  pw : PW X e (tDT Z a)
structure DA (Z : Zx) (X : Cx) (es : List Expr) (a : AA) : Prop where
  pa : PA X es (tDA Z a)

theorem pe_imp {X : Cx} {e : Expr} {t t' : TE} (h : PE X e t) (k : ∀ σ H Q, t' σ H Q → t σ H Q) : PE X e t' :=
  ⟨fun pins s σ H Q I w => h.run pins s σ H Q I (k σ H Q w)⟩
theorem pt_imp {X : Cx} {e : Expr} {t t' : TT} (h : PT X e t) (k : ∀ σ H Q, t' σ H Q → t σ H Q) : PT X e t' :=
  ⟨fun pins s σ H Q I w => h.run pins s σ H Q I (k σ H Q w)⟩
theorem pw_imp {X : Cx} {e : Expr} {t t' : TT} (h : PW X e t) (k : ∀ σ H Q, t' σ H Q → t σ H Q) : PW X e t' :=
  ⟨fun wh pins s σ H Q I w => h.run wh pins s σ H Q I (k σ H Q w)⟩
theorem pa_imp {X : Cx} {es : List Expr} {t t' : TA} (h : PA X es t) (k : ∀ σ H Q, t' σ H Q → t σ H Q) : PA X es t' :=
  ⟨fun pos pins s σ H Q I w => h.run pos pins s σ H Q I (k σ H Q w)⟩

section
variable {Z : Zx} {B : Bs} {X : Cx} {pos : Pos}

def dVar (i : Nat) : AE := fun ρ Q => match ρ[i]? with
  | some (some (.val d)) => Q d ρ
  | some (some (.own d)) => Q d (ρ.set i (some (.val d)))
  | _ => False
theorem de_var {i : Nat} {x : Str} (hN : X.N[i]? = some x) (hv : Vis X.env.scope x) (hd : (x == ("__debug__" : Str)) = false := by decide) (hcd : (x == ("__classdict__" : Str)) = false := by decide) :
    DE Z X (.Name x pos) (dVar i) := by
  refine ⟨pe_imp (pe_var hN hv hd hcd) fun σ H Q h => ?_⟩
  obtain ⟨B, F, ρ, Q', w, r, a, k⟩ := h
  unfold dVar at a
  split at a
  next d e => obtain ⟨v, hs, hr⟩ := r.val i d e; exact ⟨v, hs, k F H ρ d v w (Ext.refl F) r hr a⟩
  next d e => obtain ⟨p, o, hs, w', x', r', hr⟩ := w.freeze r e; exact ⟨_, hs, k _ H _ d _ w' x' r' hr a⟩
  next => exact False.elim a
def dC (d : DV) : AE := fun ρ Q => Q d ρ
theorem de_const {e : Expr} {v : V} {d : DV} (h : PE X e (tC v)) (hr : ∀ F, Rep F d v) : DE Z X e (dC d) :=
  ⟨pe_imp h fun σ H Q ⟨B, F, ρ, Q', w, r, a, k⟩ => k F H ρ d v w (Ext.refl F) r (hr F) a⟩
theorem de_int {i j} : DE Z X (.Constant (.int i) j pos) (dC (.int i)) := de_const pe_int fun _ => rep_int.mpr rfl
theorem de_bl {b j} : DE Z X (.Constant (.bool b) j pos) (dC (.bl b)) := de_const pe_bl fun _ => rep_bl.mpr rfl
theorem de_non {j} : DE Z X (.Constant .none j pos) (dC .non) := de_const pe_non fun _ => rep_non.mpr rfl
theorem de_str {x j} : DE Z X (.Constant (.str x) j pos) (dC (.str x)) := de_const pe_str fun _ => rep_str.mpr rfl
/-- a module's constant -/
theorem de_gint {x : Str} {i : Int} {t : Tok} (hg : Gl X x) (hm : X.mg x = some (.int i t)) (hd : (x == ("__debug__" : Str)) = false := by decide) : DE Z X (.Name x pos) (dC (.int i)) :=
  de_const (pe_glob (v := .int i) hg hm ⟨t, rfl⟩ hd) fun _ => rep_int.mpr rfl
theorem de_gstr {x : Str} {z : Str} {t : Tok} (hg : Gl X x) (hm : X.mg x = some (.str z t)) (hd : (x == ("__debug__" : Str)) = false := by decide) : DE Z X (.Name x pos) (dC (.str z)) :=
  de_const (pe_glob (v := .str z) hg hm ⟨t, rfl⟩ hd) fun _ => rep_str.mpr rfl

def OpD (r : R2) (f : DV → DV → (DV → Prop) → Prop) : Prop := ∀ (B : Bs) (F : Wo) (H : Hp) (x y : V) (dx dy : DV) (Q : VK) (Q' : DV → Prop), Wd B F H → Rep F dx x → Rep F dy y → f dx dy Q' →
  (∀ F' H' d v, Stp B F H F' H' → Rep F' d v → Q' d → Q v H') → r x y H Q
def dOp (f : DV → DV → (DV → Prop) → Prop) (a b : AE) : AE := fun ρ Q => a ρ fun x ρ1 => b ρ1 fun y ρ2 => f x y fun z => Q z ρ2
variable {e e1 e2 e3 : Expr} {a b c : AE}
theorem lift2 {r : R2} {f : DV → DV → (DV → Prop) → Prop} (hf : OpD r f) {σ : St} {H : Hp} {Q : VK} (h : tD Z (dOp f a b) σ H Q) : tOp r (tD Z a) (tD Z b) σ H Q := by
  obtain ⟨B, F, ρ, Q', w, r0, q, k⟩ := h
  refine ⟨B, F, ρ, _, w, r0, q, fun F1 H1 ρ1 dx x w1 x1 r1 hx q1 => ?_⟩
  refine ⟨B, F1, ρ1, _, w1, r1, q1, fun F2 H2 ρ2 dy y w2 x2 r2 hy q2 => ?_⟩
  exact hf (Z.b B) F2 H2 x y dx dy Q _ w2 (hx.mono x2) hy q2 fun F3 H3 d v s hr q3 => k F3 H3 ρ2 d v s.wd (x1.trans (x2.trans s.ext)) (s.st _ _ r2) hr q3
theorem de_op {op : Operator} {r : R2} {f : DV → DV → (DV → Prop) → Prop} (ho : OpR X (binaryOp op) r) (hf : OpD r f) (h1 : DE Z X e1 a) (h2 : DE Z X e2 b) : DE Z X (.BinOp e1 op e2 pos) (dOp f a b) :=
  ⟨pe_imp (pe_op ho h1.pe h2.pe) fun _ _ _ h => lift2 hf h⟩
theorem de_cmp {op : CmpOp} {r : R2} {f : DV → DV → (DV → Prop) → Prop} (ho : OpR X (compareOp op) r) (hf : OpD r f) (h1 : DE Z X e1 a) (h2 : DE Z X e2 b) (hm : behindInMarks op e2 = false) : DE Z X (.Compare e1 [op] [e2] pos) (dOp f a b) :=
  ⟨pe_imp (pe_cmpR ho h1.pe h2.pe hm) fun _ _ _ h => lift2 hf h⟩
def dTest (a : AE) : AT := fun ρ Q => a ρ fun x ρ1 => ∃ k, x = .bl k ∧ Q k ρ1
theorem dt_cmp {op : CmpOp} {r : R2} {f : DV → DV → (DV → Prop) → Prop} (ho : OpR X (compareOp op) r) (hf : OpD r f) (h1 : DE Z X e1 a) (h2 : DE Z X e2 b) (hm : behindInMarks op e2 = false) : DT Z X (.Compare e1 [op] [e2] pos) (dTest (dOp f a b)) := by
  refine ⟨pt_imp (pt_cmpR ho h1.pe h2.pe hm) fun σ H Q h => ?_⟩
  obtain ⟨B, F, ρ, Q', w, r0, q, k⟩ := h
  refine lift2 hf ⟨B, F, ρ, _, w, r0, q, fun F' H' ρ' d v w' x' r' hr q' => ?_⟩
  obtain ⟨b, rfl, q'⟩ := q'
  exact ⟨b, rep_bl.mp hr, k F' H' ρ' b w' x' r' q'⟩
def dChain (f g : DV → DV → (DV → Prop) → Prop) (a b c : AE) : AE := fun ρ Q => a ρ fun x ρ1 => b ρ1 fun y ρ2 => f x y fun z => ∃ k, z = .bl k ∧
  if k = true then c ρ2 fun u ρ3 => g y u fun z => Q z ρ3 else Q (.bl false) ρ2
theorem liftC {r r' : R2} {f g : DV → DV → (DV → Prop) → Prop} (hf : OpD r f) (hg : OpD r' g) {σ : St} {H : Hp} {Q : VK} (h : tD Z (dChain f g a b c) σ H Q) : tChain r r' (tD Z a) (tD Z b) (tD Z c) σ H Q := by
  obtain ⟨B, F, ρ, Q', w, r0, q, k⟩ := h
  refine ⟨B, F, ρ, _, w, r0, q, fun F1 H1 ρ1 dx x w1 x1 r1 hx q1 => ?_⟩
  refine ⟨B, F1, ρ1, _, w1, r1, q1, fun F2 H2 ρ2 dy y w2 x2 r2 hy q2 => ?_⟩
  refine hf (Z.b B) F2 H2 x y dx dy _ _ w2 (hx.mono x2) hy q2 fun F3 H3 d v s hr q3 => ?_
  obtain ⟨b, rfl, q3⟩ := q3
  refine ⟨b, rep_bl.mp hr, ?_⟩
  cases b with
  | true =>
    rw [if_pos rfl] at q3 ⊢
    refine ⟨B, F3, ρ2, _, s.wd, s.st _ _ r2, q3, fun F4 H4 ρ4 du u w4 x4 r4 hu q4 => ?_⟩
    exact hg (Z.b B) F4 H4 y u dy du Q _ w4 (hy.mono (s.ext.trans x4)) hu q4 fun F5 H5 d v s5 hr5 q5 =>
      k F5 H5 ρ4 d v s5.wd (x1.trans (x2.trans (s.ext.trans (x4.trans s5.ext)))) (s5.st _ _ r4) hr5 q5
  | false =>
    rw [if_neg Bool.false_ne_true] at q3 ⊢
    exact k F3 H3 ρ2 _ _ s.wd (x1.trans (x2.trans s.ext)) (s.st _ _ r2) (rep_bl.mpr rfl) q3
theorem de_chain {op op' : CmpOp} {r r' : R2} {f g : DV → DV → (DV → Prop) → Prop} (ho : OpR X (compareOp op) r) (hf : OpD r f) (ho' : OpR X (compareOp op') r') (hg : OpD r' g) (h1 : DE Z X e1 a) (h2 : DE Z X e2 b) (h3 : DE Z X e3 c)
    (hm : lastMarks [op, op'] [e2, e3] = false := by with_unfolding_all rfl) : DE Z X (.Compare e1 [op, op'] [e2, e3] pos) (dChain f g a b c) :=
  ⟨pe_imp (pe_chain ho ho' h1.pe h2.pe h3.pe hm) fun _ _ _ h => liftC hf hg h⟩
theorem dt_chain {op op' : CmpOp} {r r' : R2} {f g : DV → DV → (DV → Prop) → Prop} (ho : OpR X (compareOp op) r) (hf : OpD r f) (ho' : OpR X (compareOp op') r') (hg : OpD r' g) (h1 : DE Z X e1 a) (h2 : DE Z X e2 b) (h3 : DE Z X e3 c)
    (hm : lastMarks [op, op'] [e2, e3] = false := by with_unfolding_all rfl) : DT Z X (.Compare e1 [op, op'] [e2, e3] pos) (dTest (dChain f g a b c)) := by
  refine ⟨pt_imp (pt_chain ho ho' h1.pe h2.pe h3.pe hm) fun σ H Q h => ?_⟩
  obtain ⟨B, F, ρ, Q', w, r0, q, k⟩ := h
  refine liftC hf hg ⟨B, F, ρ, _, w, r0, q, fun F' H' ρ' d v w' x' r' hr q' => ?_⟩
  obtain ⟨b, rfl, q'⟩ := q'
  exact ⟨b, rep_bl.mp hr, k F' H' ρ' b w' x' r' q'⟩

/-- truth -/
def fTru (d : DV) (Q : Bool → Prop) : Prop := match d with
  | .non => Q false
  | .bl b => Q b
  | .int i => Q (i != 0)
  | .str x => x.length ≤ sizeLine ∧ Q ((x.length : Int) != 0)
  | .tup xs => Q (!xs.isEmpty)
  | .lst xs => Q (!xs.isEmpty)
  | _ => False
theorem Wd.sqL {F : Wo} {H : Hp} {p : Addr} {vs : List V} {K : PySem.W.Frag} (w : Wd B F H) (h : F.fz p = some (.lst vs)) : H p = some (.lst vs) := by
  rcases w.fz _ _ h with q | ⟨⟨_, q⟩, _⟩
  · exact q
  · cases q
theorem Wd.sqT {F : Wo} {H : Hp} {p : Addr} {vs : List V} {K : PySem.W.Frag} (w : Wd B F H) (h : F.fz p = some (.tup vs)) : H p = some (.tup vs) := by
  rcases w.fz _ _ h with q | ⟨⟨_, q⟩, _⟩
  · exact q
  · cases q
theorem Wd.ins {F : Wo} {H : Hp} {p C dx : Addr} {fs : List (Str × V)} (w : Wd B F H) (h : F.fz p = some (.ins C dx fs)) : H p = some (.ins C dx fs) := by
  rcases w.fz _ _ h with q | ⟨⟨_, q⟩, _⟩
  · exact q
  · cases q
theorem Wd.rdD {F : Wo} {H : Hp} {p : Addr} {kvs : List (Key × V)} (w : Wd B F H) (h : F.fz p = some (.dK kvs)) : Rd H p (.dK kvs) := by
  rcases w.fz _ _ h with q | ⟨_, ob, q⟩
  · exact .inl q
  · exact .inr ⟨ob, q⟩
theorem Reps.empty {F : Wo} : ∀ {ds : List DV} {vs : List V}, Reps F ds vs → vs.isEmpty = ds.isEmpty
  | [], _, h => by rw [reps_nil.mp h]; rfl
  | _ :: _, _, h => by obtain ⟨v, r, rfl, _, _⟩ := reps_cons.mp h; rfl
theorem tru_of {F : Wo} {H : Hp} {d : DV} {v : V} {Q : Bool → Prop} (w : Wd B F H) (hr : Rep F d v) (h : fTru d Q) : ∃ k, TruV X.K v H k ∧ Q k := by
  cases d with
  | non => rw [rep_non.mp hr]; exact ⟨_, rfl, h⟩
  | bl b => rw [rep_bl.mp hr]; exact ⟨_, rfl, h⟩
  | int i => rw [rep_int.mp hr]; exact ⟨_, rfl, h⟩
  | str x => rw [rep_str.mp hr]; exact ⟨_, ⟨h.1, rfl⟩, h.2⟩
  | tup xs => obtain ⟨p, vs, rfl, hf, hs⟩ := rep_tup.mp hr; exact ⟨_, .inr (.inl ⟨vs, SqT.of (w.sqT (K := X.K) hf), by rw [hs.empty]⟩), h⟩
  | lst xs => obtain ⟨p, vs, rfl, hf, hs⟩ := rep_lst.mp hr; exact ⟨_, .inl ⟨vs, SqL.of (w.sqL (K := X.K) hf), by rw [hs.empty]⟩, h⟩
  | _ => exact False.elim h
def dTru (a : AE) : AT := fun ρ Q => a ρ fun x ρ1 => fTru x fun k => Q k ρ1
theorem dt_tru (h : DE Z X e a) (he : ∀ whole, isTrue e X.env whole = (do let v ← whole; standAt e.pos; holding [v] (truthy v)) := by intro _; rfl) : DT Z X e (dTru a) := by
  refine ⟨pt_imp (pt_truth h.pe he) fun σ H Q h => ?_⟩
  obtain ⟨B, F, ρ, Q', w, r0, q, k⟩ := h
  refine ⟨B, F, ρ, _, w, r0, q, fun F' H' ρ' d v w' x' r' hr q' => ?_⟩
  obtain ⟨b, hb, q'⟩ := tru_of (X := X) w' hr q'
  exact ⟨b, hb, k F' H' ρ' b w' x' r' q'⟩
variable {ta tb : AT} {rest : List Expr}
def dAnd (a b : AT) : AT := fun ρ Q => a ρ fun c ρ1 => if c = true then b ρ1 Q else Q false ρ1
def dOr (a b : AT) : AT := fun ρ Q => a ρ fun c ρ1 => if c = true then Q true ρ1 else b ρ1 Q
def dNot (a : AT) : AT := fun ρ Q => a ρ fun c ρ1 => Q (!c) ρ1
theorem DW.dt {e : Expr} (h : DW Z X e ta) : DT Z X e ta := ⟨h.pw.pt⟩
theorem dw_and1 (h : DT Z X e1 ta) : DW Z X (.BoolOp .And [e1] pos) ta := ⟨pw_and1 h.pt⟩
theorem dw_or1 (h : DT Z X e1 ta) : DW Z X (.BoolOp .Or [e1] pos) ta := ⟨pw_or1 h.pt⟩
theorem dw_and (h1 : DT Z X e1 ta) (h2 : DW Z X (.BoolOp .And (e2 :: rest) pos) tb) : DW Z X (.BoolOp .And (e1 :: e2 :: rest) pos) (dAnd ta tb) := by
  refine ⟨pw_imp (pw_and h1.pt h2.pw) fun σ H Q h => ?_⟩
  obtain ⟨B, F, ρ, Q', w, r0, q, k⟩ := h
  refine ⟨B, F, ρ, _, w, r0, q, fun F' H' ρ' b w' x' r' q' => ?_⟩
  cases b with
  | true =>
    rw [if_pos rfl] at q' ⊢
    exact ⟨B, F', ρ', _, w', r', q', fun F2 H2 ρ2 b w2 x2 r2 q2 => k F2 H2 ρ2 b w2 (x'.trans x2) r2 q2⟩
  | false =>
    rw [if_neg Bool.false_ne_true] at q' ⊢
    exact k F' H' ρ' _ w' x' r' q'
theorem dw_or (h1 : DT Z X e1 ta) (h2 : DW Z X (.BoolOp .Or (e2 :: rest) pos) tb) : DW Z X (.BoolOp .Or (e1 :: e2 :: rest) pos) (dOr ta tb) := by
  refine ⟨pw_imp (pw_or h1.pt h2.pw) fun σ H Q h => ?_⟩
  obtain ⟨B, F, ρ, Q', w, r0, q, k⟩ := h
  refine ⟨B, F, ρ, _, w, r0, q, fun F' H' ρ' b w' x' r' q' => ?_⟩
  cases b with
  | false =>
    rw [if_neg Bool.false_ne_true] at q' ⊢
    exact ⟨B, F', ρ', _, w', r', q', fun F2 H2 ρ2 b w2 x2 r2 q2 => k F2 H2 ρ2 b w2 (x'.trans x2) r2 q2⟩
  | true =>
    rw [if_pos rfl] at q' ⊢
    exact k F' H' ρ' _ w' x' r' q'
theorem dt_not (h1 : DT Z X e1 ta) : DT Z X (.UnaryOp .Not e1 pos) (dNot ta) := by
  refine ⟨pt_imp (pt_not h1.pt) fun σ H Q h => ?_⟩
  obtain ⟨B, F, ρ, Q', w, r0, q, k⟩ := h
  exact ⟨B, F, ρ, _, w, r0, q, fun F' H' ρ' b w' x' r' q' => k F' H' ρ' _ w' x' r' q'⟩
/-- values -/
def dAndV (a b : AE) : AE := fun ρ Q => a ρ fun x ρ1 => fTru x fun k => if k = true then b ρ1 Q else Q x ρ1
def dOrV (a b : AE) : AE := fun ρ Q => a ρ fun x ρ1 => fTru x fun k => if k = true then Q x ρ1 else b ρ1 Q
theorem de_one {op} (h : DE Z X e1 a) : DE Z X (.BoolOp op [e1] pos) a := ⟨pe_one h.pe⟩
theorem de_and (h1 : DE Z X e1 a) (h2 : DE Z X (.BoolOp .And (e2 :: rest) pos) b) : DE Z X (.BoolOp .And (e1 :: e2 :: rest) pos) (dAndV a b) := by
  refine ⟨pe_imp (pe_andT h1.pe h2.pe) fun σ H Q h => ?_⟩
  obtain ⟨B, F, ρ, Q', w, r0, q, k⟩ := h
  refine ⟨B, F, ρ, _, w, r0, q, fun F' H' ρ' d v w' x' r' hr q' => ?_⟩
  obtain ⟨b, hb, q'⟩ := tru_of (X := X) w' hr q'
  refine ⟨b, hb, ?_⟩
  cases b with
  | true =>
    rw [if_pos rfl] at q' ⊢
    exact ⟨B, F', ρ', _, w', r', q', fun F2 H2 ρ2 b v2 w2 x2 r2 hr2 q2 => k F2 H2 ρ2 b v2 w2 (x'.trans x2) r2 hr2 q2⟩
  | false =>
    rw [if_neg Bool.false_ne_true] at q' ⊢
    exact k F' H' ρ' _ _ w' x' r' hr q'
theorem de_or (h1 : DE Z X e1 a) (h2 : DE Z X (.BoolOp .Or (e2 :: rest) pos) b) : DE Z X (.BoolOp .Or (e1 :: e2 :: rest) pos) (dOrV a b) := by
  refine ⟨pe_imp (pe_orT h1.pe h2.pe) fun σ H Q h => ?_⟩
  obtain ⟨B, F, ρ, Q', w, r0, q, k⟩ := h
  refine ⟨B, F, ρ, _, w, r0, q, fun F' H' ρ' d v w' x' r' hr q' => ?_⟩
  obtain ⟨b, hb, q'⟩ := tru_of (X := X) w' hr q'
  refine ⟨b, hb, ?_⟩
  cases b with
  | false =>
    rw [if_neg Bool.false_ne_true] at q' ⊢
    exact ⟨B, F', ρ', _, w', r', q', fun F2 H2 ρ2 b v2 w2 x2 r2 hr2 q2 => k F2 H2 ρ2 b v2 w2 (x'.trans x2) r2 hr2 q2⟩
  | true =>
    rw [if_pos rfl] at q' ⊢
    exact k F' H' ρ' _ _ w' x' r' hr q'
def dIf (t : AT) (a b : AE) : AE := fun ρ Q => t ρ fun c ρ1 => if c = true then a ρ1 Q else b ρ1 Q
theorem de_if (ht : DT Z X e ta) (h1 : DE Z X e1 a) (h2 : DE Z X e2 b) : DE Z X (.IfExp e e1 e2 pos) (dIf ta a b) := by
  refine ⟨pe_imp (pe_ifExp ht.pt h1.pe h2.pe) fun σ H Q h => ?_⟩
  obtain ⟨B, F, ρ, Q', w, r0, q, k⟩ := h
  refine ⟨B, F, ρ, _, w, r0, q, fun F' H' ρ' b w' x' r' q' => ?_⟩
  cases b with
  | false =>
    rw [if_neg Bool.false_ne_true] at q' ⊢
    exact ⟨B, F', ρ', _, w', r', q', fun F2 H2 ρ2 b v2 w2 x2 r2 hr2 q2 => k F2 H2 ρ2 b v2 w2 (x'.trans x2) r2 hr2 q2⟩
  | true =>
    rw [if_pos rfl] at q' ⊢
    exact ⟨B, F', ρ', _, w', r', q', fun F2 H2 ρ2 b v2 w2 x2 r2 hr2 q2 => k F2 H2 ρ2 b v2 w2 (x'.trans x2) r2 hr2 q2⟩

def dNil : AA := fun ρ Q => Q [] ρ
def dCons (a : AE) (t : AA) : AA := fun ρ Q => a ρ fun x ρ1 => t ρ1 fun xs ρ2 => Q (x :: xs) ρ2
variable {es : List Expr} {t : AA}
theorem da_nil : DA Z X [] dNil := ⟨pa_imp pa_nil fun σ H Q ⟨B, F, ρ, Q', w, r, a, k⟩ => k F H ρ _ _ w (Ext.refl F) r Reps.nil a⟩
theorem da_cons (h1 : DE Z X e a) (h2 : DA Z X es t) (hs : starEach (e :: es) X.env = (false, eval e X.env) :: starEach es X.env := by rfl) : DA Z X (e :: es) (dCons a t) := by
  refine ⟨pa_imp (pa_cons h1.pe h2.pa hs) fun σ H Q h => ?_⟩
  obtain ⟨B, F, ρ, Q', w, r0, q, k⟩ := h
  refine ⟨B, F, ρ, _, w, r0, q, fun F1 H1 ρ1 dx x w1 x1 r1 hx q1 => ?_⟩
  exact ⟨B, F1, ρ1, _, w1, r1, q1, fun F2 H2 ρ2 ds vs w2 x2 r2 hs q2 => k F2 H2 ρ2 _ _ w2 (x1.trans x2) r2 (Reps.cons (hx.mono x2) hs) q2⟩
def dTup (t : AA) : AE := fun ρ Q => t ρ fun xs ρ1 => xs.length ≤ sizeLine ∧ Q (.tup xs) ρ1
def dLst (t : AA) : AE := fun ρ Q => t ρ fun xs ρ1 => xs.length ≤ sizeLine ∧ Q (.lst xs) ρ1
theorem Stp.tupN {F : Wo} {H : Hp} {p : Addr} {ds : List DV} {vs : List V} (w : Wd B F H) (hp : H p = none) (h : Reps F ds vs) : Stp B F H (F.add p (.tup vs)) (upd H p (.tup vs)) ∧ Rep (F.add p (.tup vs)) (.tup ds) (.ref p) :=
  ⟨w.lay hp, rep_tup.mpr ⟨p, vs, rfl, Wo.add_same, h.mono (w.lay hp).ext⟩⟩
theorem Stp.lstN {F : Wo} {H : Hp} {p : Addr} {ds : List DV} {vs : List V} (w : Wd B F H) (hp : H p = none) (h : Reps F ds vs) : Stp B F H (F.add p (.lst vs)) (upd H p (.lst vs)) ∧ Rep (F.add p (.lst vs)) (.lst ds) (.ref p) :=
  ⟨w.lay hp, rep_lst.mpr ⟨p, vs, rfl, Wo.add_same, h.mono (w.lay hp).ext⟩⟩
theorem de_tup {x1} (h : DA Z X es t) : DE Z X (.Tuple es x1 pos) (dTup t) := by
  refine ⟨pe_imp (pe_tup h.pa) fun σ H Q h => ?_⟩
  obtain ⟨B, F, ρ, Q', w, r0, q, k⟩ := h
  refine ⟨B, F, ρ, _, w, r0, q, fun F1 H1 ρ1 ds vs w1 x1 r1 hs q1 => ⟨by rw [← hs.length]; exact q1.1, fun p hp => ?_⟩⟩
  obtain ⟨s, hr⟩ := Stp.tupN w1 hp hs
  exact k _ _ ρ1 _ _ s.wd (x1.trans s.ext) (s.st _ _ r1) hr q1.2
theorem de_lst (h : DA Z X es t) : DE Z X (.List es pos) (dLst t) := by
  refine ⟨pe_imp (pe_lst h.pa) fun σ H Q h => ?_⟩
  obtain ⟨B, F, ρ, Q', w, r0, q, k⟩ := h
  refine ⟨B, F, ρ, _, w, r0, q, fun F1 H1 ρ1 ds vs w1 x1 r1 hs q1 => ⟨by rw [← hs.length]; exact q1.1, fun p hp => ?_⟩⟩
  obtain ⟨s, hr⟩ := Stp.lstN w1 hp hs
  exact k _ _ ρ1 _ _ s.wd (x1.trans s.ext) (s.st _ _ r1) hr q1.2

def ClD (r : List V → Hp → VK → Prop) (f : List DV → (DV → Prop) → Prop) : Prop := ∀ (B : Bs) (F : Wo) (H : Hp) (xs : List V) (ds : List DV) (Q : VK) (Q' : DV → Prop), Wd B F H → Reps F ds xs → f ds Q' →
  (∀ F' H' d v, Stp B F H F' H' → Rep F' d v → Q' d → Q v H') → r xs H Q
def dCl (f : List DV → (DV → Prop) → Prop) (t : AA) : AE := fun ρ Q => t ρ fun xs ρ1 => f xs fun z => Q z ρ1
theorem liftCl {r : List V → Hp → VK → Prop} {f : List DV → (DV → Prop) → Prop} (hf : ClD r f) {σ : St} {H : Hp} {Q : VK} (h : tD Z (dCl f t) σ H Q) : tCB r (tDA Z t) σ H Q := by
  obtain ⟨B, F, ρ, Q', w, r0, q, k⟩ := h
  refine ⟨B, F, ρ, _, w, r0, q, fun F1 H1 ρ1 ds xs w1 x1 r1 hs q1 => ?_⟩
  exact hf (Z.b B) F1 H1 xs ds Q _ w1 hs q1 fun F2 H2 d v s hr q2 => k F2 H2 ρ1 d v s.wd (x1.trans s.ext) (s.st _ _ r1) hr q2
variable {x : Str} {p : Pos} {id T : String}
theorem de_callB {r : List V → Hp → VK → Prop} {f : List DV → (DV → Prop) → Prop} (hc : CallR X (.builtin id) r) (hf : ClD r f) (hg : Gl X x) (hm : X.mg x = none) (hv : bootBuiltins x = some (.builtin id)) (ha : DA Z X (e :: es) t) (hn : x ≠ "__name__" := by decide) (hdb : (x == ("__debug__" : Str)) = false := by decide)
    (he : starEach (e :: es) X.env = (false, eval e X.env) :: starEach es X.env := by rfl) (hpl : (backTo pos (starEach es X.env)).any (·.1) = false := by rfl) : DE Z X (.Call (.Name x p) (e :: es) [] pos) (dCl f t) :=
  ⟨pe_imp (pe_callB hc hg hm hv ha.pa hn hdb he hpl) fun _ _ _ h => liftCl hf h⟩
theorem de_callTy {r : List V → Hp → VK → Prop} {f : List DV → (DV → Prop) → Prop} (hc : CallR X (.type T) r) (hf : ClD r f) (hg : Gl X x) (hm : X.mg x = none) (hv : bootBuiltins x = some (.type T)) (ha : DA Z X (e :: es) t) (hn : x ≠ "__name__" := by decide) (hdb : (x == ("__debug__" : Str)) = false := by decide)
    (he : starEach (e :: es) X.env = (false, eval e X.env) :: starEach es X.env := by rfl) (hpl : (backTo pos (starEach es X.env)).any (·.1) = false := by rfl) : DE Z X (.Call (.Name x p) (e :: es) [] pos) (dCl f t) :=
  ⟨pe_imp (pe_callTy hc hg hm hv ha.pa hn hdb he hpl) fun _ _ _ h => liftCl hf h⟩

theorem de_ix {r : R2} {f : DV → DV → (DV → Prop) → Prop} (hr : IxR X r) (hf : OpD r f) (h1 : DE Z X e1 a) (h2 : DE Z X e2 b) (hs : PlainIx e2 := by intro _ _; rfl) : DE Z X (.Subscript e1 e2 pos) (dOp f a b) :=
  ⟨pe_imp (pe_ix hr h1.pe h2.pe hs) fun _ _ _ h => lift2 hf h⟩
abbrev AO := DSt → (Option Int → DSt → Prop) → Prop
inductive TOi (Z : Zx) (a : AO) (σ : St) (H : Hp) (Q : Option Int → Hp → Prop) : Prop
  | mk (L : Addr → Option HO) (F : Wo) (ρ : DSt) (Q' : Option Int → DSt → Prop) (w : Wd (Z.b L) F H) (r : RSt (Z.b L) F ρ σ H) (q : a ρ Q')
    (k : ∀ F' H' ρ' b, Wd (Z.b L) F' H' → Ext F F' → RSt (Z.b L) F' ρ' σ H' → Q' b ρ' → Q b H') : TOi Z a σ H Q
def tDO (Z : Zx) (a : AO) : TO := fun σ H Q => TOi Z a σ H Q
structure DO (Z : Zx) (X : Cx) (e : Option Expr) (a : AO) : Prop where
  po : PO X e (tDO Z a)
theorem po_imp {X : Cx} {e : Option Expr} {t t' : TO} (h : PO X e t) (k : ∀ σ H Q, t' σ H Q → t σ H Q) : PO X e t' :=
  ⟨fun pins s σ H Q I w => h.run pins s σ H Q I (k σ H Q w)⟩
def dNo : AO := fun ρ Q => Q none ρ
def dPart (a : AE) : AO := fun ρ Q => a ρ fun x ρ1 => ∃ i, x = .int i ∧ Q (some i) ρ1
theorem do_none : DO Z X none dNo := ⟨po_imp po_none fun σ H Q ⟨B, F, ρ, Q', w, r, a, k⟩ => k F H ρ _ w (Ext.refl F) r a⟩
theorem do_some (h : DE Z X e a) : DO Z X (some e) (dPart a) := by
  refine ⟨po_imp (po_some h.pe) fun σ H Q h => ?_⟩
  obtain ⟨B, F, ρ, Q', w, r0, q, k⟩ := h
  refine ⟨B, F, ρ, _, w, r0, q, fun F1 H1 ρ1 dx x w1 x1 r1 hx q1 => ?_⟩
  obtain ⟨i, rfl, q1⟩ := q1
  exact ⟨i, rep_int.mp hx, k F1 H1 ρ1 _ w1 x1 r1 q1⟩
def SlD (r : V → Option Int → Option Int → Hp → VK → Prop) (f : DV → Option Int → Option Int → (DV → Prop) → Prop) : Prop := ∀ (B : Bs) (F : Wo) (H : Hp) (x : V) (dx : DV) (lo hi : Option Int) (Q : VK) (Q' : DV → Prop), Wd B F H → Rep F dx x → f dx lo hi Q' →
  (∀ F' H' d v, Stp B F H F' H' → Rep F' d v → Q' d → Q v H') → r x lo hi H Q
def dSl (f : DV → Option Int → Option Int → (DV → Prop) → Prop) (a : AE) (lo hi : AO) : AE := fun ρ Q => a ρ fun x ρ1 => lo ρ1 fun l ρ2 => hi ρ2 fun u ρ3 => f x l u fun z => Q z ρ3
variable {lo hi : Option Expr} {tl th : AO} {p2 : Pos}
theorem de_slice {r : V → Option Int → Option Int → Hp → VK → Prop} {f : DV → Option Int → Option Int → (DV → Prop) → Prop} (hr : SlR X r) (hf : SlD r f) (h1 : DE Z X e a) (hl : DO Z X lo tl) (hu : DO Z X hi th) :
    DE Z X (.Subscript e (.Slice lo hi none p2) pos) (dSl f a tl th) := by
  refine ⟨pe_imp (pe_slice hr h1.pe hl.po hu.po) fun σ H Q h => ?_⟩
  obtain ⟨B, F, ρ, Q', w, r0, q, k⟩ := h
  refine ⟨B, F, ρ, _, w, r0, q, fun F1 H1 ρ1 dx x w1 x1 r1 hx q1 => ?_⟩
  refine ⟨B, F1, ρ1, _, w1, r1, q1, fun F2 H2 ρ2 l w2 x2 r2 q2 => ?_⟩
  refine ⟨B, F2, ρ2, _, w2, r2, q2, fun F3 H3 ρ3 u w3 x3 r3 q3 => ?_⟩
  exact hf (Z.b B) F3 H3 x dx l u Q _ w3 (hx.mono (x2.trans x3)) q3 fun F4 H4 d v s hr q4 => k F4 H4 ρ3 d v s.wd (x1.trans (x2.trans (x3.trans s.ext))) (s.st _ _ r3) hr q4
end
end DL

namespace DL
open PySem L2

def repS (z : Str) (n : Nat) : Str := ⟨(List.replicate n z.cps.toList).flatten.toArray⟩
theorem foldl_cps (z : Array Nat) : ∀ (n : Nat) (acc : Array Nat), (List.replicate n z).foldl (· ++ ·) acc = ⟨acc.toList ++ (List.replicate n z.toList).flatten⟩
  | 0, acc => by simp
  | n + 1, acc => by
    rw [List.replicate_succ, List.foldl_cons, foldl_cps z n]
    simp [List.replicate_succ]
theorem mul_rep {z : Str} {k : Int} : Txt.mul z k = repS z k.toNat := by
  unfold Txt.mul repS
  by_cases h1 : k < 1
  · rw [if_pos h1]
    have : k.toNat = 0 := by omega
    rw [this]; rfl
  · rw [if_neg h1]
    by_cases h2 : (k == 1 || z.length == 0) = true
    · rw [if_pos h2]
      rw [Bool.or_eq_true] at h2
      rcases h2 with h2 | h2
      · have : k = 1 := by simpa using h2
        subst this
        simp
      · have hz : z.cps.toList = [] := by
          have : z.cps.size = 0 := by simpa [Str.length] using h2
          simpa using this
        rw [hz]
        have : ∀ n : Nat, (List.replicate n ([] : List Nat)).flatten = [] := fun n => by induction n with | zero => rfl | succ n ih => simp [List.replicate_succ]
        rw [this]
        cases z with | mk c => simp at hz; subst hz; rfl
    · rw [if_neg h2, foldl_cps]; simp
theorem mulOk {z : Str} {k : Int} (h1 : -1000 ≤ k) (h2 : k ≤ 1000) (h3 : z.length ≤ 1000) : MulOk z k := by
  refine ⟨?_, fun h4 _ => ?_, fun h4 _ => ?_⟩
  · rw [decide_eq_false (by omega), decide_eq_false (by omega)]; rfl
  · have : (1000 : Int) ≤ (2 ^ 63 - 1) / k := (Int.le_ediv_iff_mul_le (by omega)).mpr (by omega)
    omega
  · have : z.length * k.toNat ≤ 1000 * 1000 := Nat.mul_le_mul h3 (by omega)
    exact decide_eq_false (by rw [sizeLine_eq]; omega)
def rMulS : R2 := fun x y H Q => ∃ z k, x = .str z ∧ y = .int k ∧ -1000 ≤ k ∧ k ≤ 1000 ∧ z.length ≤ 1000 ∧ Q (.str (repS z k.toNat)) H
theorem op_mulS {X : Cx} : OpR X (binaryOp .Mult) rMulS := by
  intro pins s σ H x y v u Q I rx ry h
  obtain ⟨z, k, rfl, rfl, h1, h2, h3, q⟩ := h
  obtain ⟨t, rfl⟩ := rx
  obtain ⟨t2, rfl⟩ := ry
  refine SB.mul (mulOk h1 h2 h3) fun t' kk => ?_
  rw [mul_rep]
  exact ⟨.str (repS z k.toNat), H, I.kept fun _ _ e => e, ⟨t', rfl⟩, q⟩
theorem tuple_mul1 (l : Addr) (items : Array Value) (n : Nat) (dd : Option Addr) (sl : Array (Option Value)) (x : Int) (u : Tok) (c0 : (decide (x < -(2 ^ 63)) || decide (x ≥ 2 ^ 63)) = false) (c1 : (items.isEmpty || x == 1) = true) :
    Meets (Builtin.«tuple.__mul__» ⟨[.ref l, .int x u], []⟩) (fun _ R s => s.heap.get? l = some { cls := .type "tuple", dict := dd, data := .seq items n, slots := sl } ∧ R (.ok (.ret (Value.ref l))) s) :=
  .of_wp fun prog w A R s h => by
    obtain ⟨hp, g, d, tk, os⟩ := s
    obtain ⟨hl, h⟩ := h
    have f1 := AutoSeq1.idx_int
    wp_walk using AutoSeq1.wpAny_loadPart' hl
    repeat (first
      | (refine wpAny_ite_false (decide_eq_false (by rw [c0]; exact Bool.false_ne_true)) ?_; wp_walk using AutoSeq1.wpAny_loadPart' hl)
      | (refine wpAny_ite_true (decide_eq_true c1) ?_; wp_walk using AutoSeq1.wpAny_loadPart' hl))
    exact ⟨_, rfl, h⟩
/-- a tuple that stays the very object: () * k, t * 1 -/
def rRepT1 (K : PySem.W.Frag) : R2 := fun x y H Q => ∃ l k xs, x = .ref l ∧ y = .int k ∧ SqT K H l xs ∧ (xs = [] ∨ k = 1) ∧ -1000 ≤ k ∧ k ≤ 1000 ∧ Q (.ref l) H
theorem op_repT1 {X : Cx} : OpR X (binaryOp .Mult) (rRepT1 X.K) := by
  intro pins s σ H x y v u Q I rx ry h
  obtain ⟨l, k, xs, rfl, rfl, hT, h0, h1, h2, q⟩ := h
  cases rx
  obtain ⟨t, rfl⟩ := ry
  obtain ⟨its, r, ⟨⟨cls, dd, data, sl⟩, ho, hc, n, hd⟩, hs⟩ := I.tuple hT
  simp only at hc hd
  subst hc hd
  have c0 : (decide (k < -(2 ^ 63)) || decide (k ≥ 2 ^ 63)) = false := by rw [decide_eq_false (by omega), decide_eq_false (by omega)] <;> rfl
  have c1 : (its.toArray.isEmpty || k == 1) = true := by
    rcases h0 with e | e
    · have hl : its.length = xs.length := r.length.symm
      rw [e] at hl
      rw [List.eq_nil_of_length_eq_zero hl]; rfl
    · rw [e]; simp
  exact wpAny_binaryOp_repeat_ref (T := "tuple") (U := "int") (by decide) ⟨_, ho, rfl⟩ (fun s' => typeIs_int s' k t) noFill_tuple_mul PySem.F.fills_int_mul PySem.F.slot_int_rmul repeat_tuple PySem.F.slot_int_index.lookup
    (call_meets PySem.F.slot_int_rmul (typeIs_int s k t) PySem.F.entry_int_rmul (PySem.F.args_int_rmul_2 _ _) (int_rmul_tuple k t l its.toArray n dd sl)
      ⟨ho, rfl, ⟨_, ho, rfl⟩, call_meets PySem.F.slot_tuple_mul ⟨_, ho, rfl⟩ PySem.F.entry_tuple_mul (PySem.F.args_tuple_mul_2 _ _) (tuple_mul1 l its.toArray n dd sl k t c0 c1) ⟨ho, ⟨.ref l, H, I, rfl, q⟩⟩⟩)

section
variable {X : Cx}

def fAdd0 (x y : DV) (Q : DV → Prop) : Prop := match x, y with
  | .int i, .int j => Q (.int (i + j))
  | .str a, .str b => a.length + b.length ≤ sizeLine ∧ Q (.str (a ++ b))
  | .lst xs, .lst ys => xs.length + ys.length ≤ sizeLine ∧ Q (.lst (xs ++ ys))
  | .tup xs, .tup ys => xs.length + ys.length ≤ sizeLine ∧ Q (.tup (xs ++ ys))
  | _, _ => False
/-- (not unfolded by itself) -/
@[irreducible] def fAdd (x y : DV) (Q : DV → Prop) : Prop := fAdd0 x y Q
theorem fAdd_is {x y : DV} {Q : DV → Prop} : fAdd x y Q = fAdd0 x y Q := by unfold fAdd; rfl
theorem oo_add : OpR X (binaryOp .Add) (fun x y H Q => (rI0 fun i j => .int (i + j)) x y H Q ∨ (∃ i j, x = .str i ∧ y = .str j ∧ i.length + j.length ≤ sizeLine ∧ Q (.str (i ++ j)) H) ∨ rCat x y H Q ∨ rCatA X.K x y H Q) :=
  OpR.or op_add (OpR.or op_add_str (OpR.or op_cat op_catA))
theorem reps_isnil {F : Wo} {ds : List DV} {vs : List V} (h : Reps F ds vs) : vs = [] ↔ ds = [] := by
  have := h.length
  constructor <;> (intro e; subst e; first | (exact List.eq_nil_of_length_eq_zero (by simpa using this)) | (exact List.eq_nil_of_length_eq_zero (by simpa using this.symm)))
theorem od_add {K : PySem.W.Frag} : OpD (fun x y H Q => (rI0 fun i j => .int (i + j)) x y H Q ∨ (∃ i j, x = .str i ∧ y = .str j ∧ i.length + j.length ≤ sizeLine ∧ Q (.str (i ++ j)) H) ∨ rCat x y H Q ∨ rCatA K x y H Q) fAdd := by
  intro B F H x y dx dy Q Q' w hx hy h k
  rw [fAdd_is] at h
  cases dx <;> first | exact False.elim h | (cases dy <;> first | exact False.elim h | skip)
  · rw [rep_int.mp hx, rep_int.mp hy]; exact .inl ⟨_, _, rfl, rfl, k F H _ _ (Stp.refl w) (rep_int.mpr rfl) h⟩
  · rw [rep_str.mp hx, rep_str.mp hy]; exact .inr (.inl ⟨_, _, rfl, rfl, h.1, k F H _ _ (Stp.refl w) (rep_str.mpr rfl) h.2⟩)
  · obtain ⟨a, vs, rfl, fa, ra⟩ := rep_tup.mp hx
    obtain ⟨b, ws, rfl, fb, rb⟩ := rep_tup.mp hy
    refine .inr (.inr (.inr ⟨a, b, vs, ws, rfl, rfl, SqT.of (w.sqT (K := K) fa), SqT.of (w.sqT (K := K) fb), by rw [← ra.length, ← rb.length]; exact h.1, fun e => ?_, fun _ e => ?_, fun _ _ p hp => ?_⟩))
    · have e' := (reps_isnil ra).mp e
      subst e'
      exact k F H _ _ (Stp.refl w) hy h.2
    · have e' := (reps_isnil rb).mp e
      subst e'
      have h2 := h.2
      rw [List.append_nil] at h2
      exact k F H _ _ (Stp.refl w) hx h2
    · obtain ⟨s, hr⟩ := Stp.tupN w hp (ra.append rb)
      exact k _ _ _ _ s hr h.2
  · obtain ⟨a, vs, rfl, fa, ra⟩ := rep_lst.mp hx
    obtain ⟨b, ws, rfl, fb, rb⟩ := rep_lst.mp hy
    refine .inr (.inr (.inl ⟨a, b, vs, ws, rfl, rfl, w.sqL (K := K) fa, w.sqL (K := K) fb, by rw [← ra.length, ← rb.length]; exact h.1, fun p hp => ?_⟩))
    obtain ⟨s, hr⟩ := Stp.lstN w hp (ra.append rb)
    exact k _ _ _ _ s hr h.2
/-- ints alone -/
def fI2 (C : Int → Int → Prop) (g : Int → Int → Int) (x y : DV) (Q : DV → Prop) : Prop := match x, y with
  | .int i, .int j => C i j ∧ Q (.int (g i j))
  | _, _ => False
theorem od_i2 {C : Int → Int → Prop} {g : Int → Int → Int} : OpD (rI C fun i j => .int (g i j)) (fI2 C g) := by
  intro B F H x y dx dy Q Q' w hx hy h k
  cases dx <;> first | exact False.elim h | (cases dy <;> first | exact False.elim h | skip)
  rw [rep_int.mp hx, rep_int.mp hy]; exact ⟨_, _, rfl, rfl, h.1, k F H _ _ (Stp.refl w) (rep_int.mpr rfl) h.2⟩
theorem reps_flat {F : Wo} {ds : List DV} {vs : List V} (h : Reps F ds vs) : ∀ n : Nat, Reps F (List.replicate n ds).flatten (List.replicate n vs).flatten
  | 0 => by simp [reps_nil]
  | n + 1 => by simp only [List.replicate_succ, List.flatten_cons]; exact h.append (reps_flat h n)
def fMul (x y : DV) (Q : DV → Prop) : Prop := match x, y with
  | .int i, .int j => CMulW i j ∧ Q (.int (i * j))
  | .lst xs, .int k => -(2 ^ 63) ≤ k ∧ k < 2 ^ 63 ∧ xs.length * k.toNat ≤ sizeLine ∧ Q (.lst (List.replicate k.toNat xs).flatten)
  | .tup xs, .int k => 1 ≤ k ∧ k ≤ 1000 ∧ xs.length ≤ 1000 ∧ Q (.tup (List.replicate k.toNat xs).flatten)
  | .str z, .int k => -1000 ≤ k ∧ k ≤ 1000 ∧ z.length ≤ 1000 ∧ Q (.str (repS z k.toNat))
  | _, _ => False
def rMulG (K : PySem.W.Frag) : R2 := fun x y H Q => (rI CMulW fun i j => .int (i * j)) x y H Q ∨ rRep x y H Q ∨ rRepT K x y H Q ∨ rRepT1 K x y H Q ∨ rMulS x y H Q
theorem oo_mul : OpR X (binaryOp .Mult) (rMulG X.K) := OpR.or op_mulW (OpR.or op_rep (OpR.or op_repT (OpR.or op_repT1 op_mulS)))
theorem flat_nil {α : Type} : ∀ n : Nat, (List.replicate n ([] : List α)).flatten = []
  | 0 => rfl
  | n + 1 => by rw [List.replicate_succ, List.flatten_cons, flat_nil n]; rfl
theorem od_mul {K : PySem.W.Frag} : OpD (rMulG K) fMul := by
  intro B F H x y dx dy Q Q' w hx hy h k
  cases dx <;> first | exact False.elim h | (cases dy <;> first | exact False.elim h | skip)
  · rw [rep_int.mp hx, rep_int.mp hy]; exact .inl ⟨_, _, rfl, rfl, h.1, k F H _ _ (Stp.refl w) (rep_int.mpr rfl) h.2⟩
  · rw [rep_str.mp hx, rep_int.mp hy]
    obtain ⟨h1, h2, h3, h4⟩ := h
    exact .inr (.inr (.inr (.inr ⟨_, _, rfl, rfl, h1, h2, h3, k F H _ _ (Stp.refl w) (rep_str.mpr rfl) h4⟩)))
  · rename_i xs kk
    have hx0 := hx
    obtain ⟨a, vs, rfl, fa, ra⟩ := rep_tup.mp hx
    rw [rep_int.mp hy]
    obtain ⟨h2, h3, h4, h5⟩ := h
    have sq := SqT.of (K := K) (w.sqT (K := K) fa)
    by_cases c : xs = [] ∨ kk = 1
    · refine .inr (.inr (.inr (.inl ⟨a, _, vs, rfl, rfl, sq, c.imp (fun e => (reps_isnil ra).mpr e) id, by omega, h3, ?_⟩)))
      have e : (List.replicate kk.toNat xs).flatten = xs := by
        rcases c with c | c
        · rw [c, flat_nil]
        · rw [c]; simp
      rw [e] at h5
      exact k F H _ _ (Stp.refl w) hx0 h5
    · refine .inr (.inr (.inl ⟨a, _, vs, rfl, rfl, sq, fun e => c (.inl ((reps_isnil ra).mp e)), ?_, h3, by rw [← ra.length]; exact h4, fun p hp => ?_⟩))
      · have : kk ≠ 1 := fun e => c (.inr e)
        omega
      · obtain ⟨s, hr⟩ := Stp.tupN w hp (reps_flat ra _)
        exact k _ _ _ _ s hr h5
  · obtain ⟨a, vs, rfl, fa, ra⟩ := rep_lst.mp hx
    rw [rep_int.mp hy]
    obtain ⟨h1, h2, h3, h4⟩ := h
    refine .inr (.inl ⟨a, _, vs, rfl, rfl, w.sqL (K := K) fa, h1, h2, by rw [← ra.length]; exact h3, fun p hp => ?_⟩)
    obtain ⟨s, hr⟩ := Stp.lstN w hp (reps_flat ra _)
    exact k _ _ _ _ s hr h4

def scalD : DV → Option V
  | .non => some .non
  | .bl b => some (.bl b)
  | .int i => some (.int i)
  | .str x => some (.str x)
  | _ => none
theorem rep_scal {F : Wo} {d : DV} {v a : V} (h : Rep F d v) (e : scalD d = some a) : v = a := by
  cases d <;> first
    | (obtain rfl := Option.some.inj (show some _ = some a from e); first | exact rep_non.mp h | exact rep_bl.mp h | exact rep_int.mp h | exact rep_str.mp h)
    | exact nomatch e
mutual
def toP : DV → Option PyData
  | .non => some .none
  | .bl b => some (.bool b)
  | .int i => some (.int i)
  | .str x => some (.str x)
  | .tup xs => (toPs xs).map .tuple
  | .lst xs => (toPs xs).map .list
  | .dic _ _ => none
  | .obj _ _ _ => none
  | .bag _ => none
  | .ty _ => none
  | .cls _ => none
  | .lsa _ _ => none
  | .osa _ _ _ _ => none
  | .exc _ _ _ _ _ => none
def toPs : List DV → Option (List PyData)
  | [] => some []
  | x :: xs => match toP x, toPs xs with
    | some p, some ps => some (p :: ps)
    | _, _ => none
end
mutual
theorem rep_dp {B : Bs} {F : Wo} {H : Hp} {K : PySem.W.Frag} (w : Wd B F H) : ∀ {d : DV} {v : V} {p : PyData}, Rep F d v → toP d = some p → Dp K H v p
  | .non, _, _, r, e => by rw [rep_non.mp r]; simp only [toP, Option.some.injEq] at e; subst e; exact .non
  | .bl b, _, _, r, e => by rw [rep_bl.mp r]; simp only [toP, Option.some.injEq] at e; subst e; exact .bl b
  | .int i, _, _, r, e => by rw [rep_int.mp r]; simp only [toP, Option.some.injEq] at e; subst e; exact .int i
  | .str x, _, _, r, e => by rw [rep_str.mp r]; simp only [toP, Option.some.injEq] at e; subst e; exact .str x
  | .tup xs, _, _, r, e => by
    obtain ⟨a, vs, rfl, f, q⟩ := rep_tup.mp r
    simp only [toP, Option.map_eq_some_iff] at e
    obtain ⟨ps, e, rfl⟩ := e
    exact .tup (SqT.of (w.sqT (K := K) f)) (rep_dps w q e)
  | .lst xs, _, _, r, e => by
    obtain ⟨a, vs, rfl, f, q⟩ := rep_lst.mp r
    simp only [toP, Option.map_eq_some_iff] at e
    obtain ⟨ps, e, rfl⟩ := e
    exact .lst (SqL.of (w.sqL (K := K) f)) (rep_dps w q e)
  | .dic _ _, _, _, _, e => nomatch (show none = some _ from e)
  | .obj _ _ _, _, _, _, e => nomatch (show none = some _ from e)
  | .bag _, _, _, _, e => nomatch (show none = some _ from e)
  | .ty _, _, _, _, e => nomatch (show none = some _ from e)
  | .cls _, _, _, _, e => nomatch (show none = some _ from e)
  | .lsa _ _, _, _, _, e => nomatch (show none = some _ from e)
  | .osa _ _ _ _, _, _, _, e => nomatch (show none = some _ from e)
  | .exc _ _ _ _ _, _, _, _, e => nomatch (show none = some _ from e)
theorem rep_dps {B : Bs} {F : Wo} {H : Hp} {K : PySem.W.Frag} (w : Wd B F H) : ∀ {ds : List DV} {vs : List V} {ps : List PyData}, Reps F ds vs → toPs ds = some ps → DpAll K H vs ps
  | [], _, _, r, e => by rw [reps_nil.mp r]; simp only [toPs, Option.some.injEq] at e; subst e; exact .nil
  | d :: ds, _, _, r, e => by
    obtain ⟨v, vs, rfl, q, qs⟩ := reps_cons.mp r
    simp only [toPs] at e
    split at e
    next p ps h1 h2 => cases e; exact .cons (rep_dp w q h1) (rep_dps w qs h2)
    next => cases e
end
/-- ==: scalars; otherwise as data -/
@[irreducible] def fEqB (x y : DV) (Q : Bool → Prop) : Prop := match scalD x, scalD y with
  | some a, some b => scal a b = true ∧ Q (decide (a = b))
  | _, _ => ∃ p q, toP x = some p ∧ toP y = some q ∧ SeqAt.shaped p = true ∧ SeqAt.shaped q = true ∧ Q (PyData.eqv p q)
def fEq (x y : DV) (Q : DV → Prop) : Prop := fEqB x y fun b => Q (.bl b)
def fNe (x y : DV) (Q : DV → Prop) : Prop := fEqB x y fun b => Q (.bl (!b))
theorem fEqB_or {x y : DV} {Q : Bool → Prop} (h : fEqB x y Q) : (∃ a b, scalD x = some a ∧ scalD y = some b ∧ scal a b = true ∧ Q (decide (a = b))) ∨
    ∃ p q, toP x = some p ∧ toP y = some q ∧ SeqAt.shaped p = true ∧ SeqAt.shaped q = true ∧ Q (PyData.eqv p q) := by
  unfold fEqB at h
  split at h
  next a b h1 h2 => exact .inl ⟨a, b, h1, h2, h⟩
  next => exact .inr h
theorem oo_eq (hu : X.A.units + 100 < cLine) : OpR X (compareOp .Eq) (fun x y H Q => rEq x y H Q ∨ rEqD X.K x y H Q) := OpR.or op_eq (op_eqD (by omega))
theorem oo_ne (hu : X.A.units + 100 < cLine) : OpR X (compareOp .NotEq) (fun x y H Q => rNe x y H Q ∨ rNeD X.K x y H Q) := OpR.or op_ne (op_neD (by omega))
theorem od_eq {K : PySem.W.Frag} : OpD (fun x y H Q => rEq x y H Q ∨ rEqD K x y H Q) fEq := by
  intro B F H x y dx dy Q Q' w hx hy h k
  rcases fEqB_or h with ⟨a, b, ea, eb, hs, q⟩ | ⟨p, q, ea, eb, s1, s2, h⟩
  · rw [rep_scal hx ea, rep_scal hy eb]; exact .inl ⟨hs, k F H _ _ (Stp.refl w) (rep_bl.mpr rfl) q⟩
  · exact .inr ⟨p, q, rep_dp w hx ea, rep_dp w hy eb, s1, s2, k F H _ _ (Stp.refl w) (rep_bl.mpr rfl) h⟩
theorem od_ne {K : PySem.W.Frag} : OpD (fun x y H Q => rNe x y H Q ∨ rNeD K x y H Q) fNe := by
  intro B F H x y dx dy Q Q' w hx hy h k
  rcases fEqB_or h with ⟨a, b, ea, eb, hs, q⟩ | ⟨p, q, ea, eb, s1, s2, h⟩
  · rw [rep_scal hx ea, rep_scal hy eb]; exact .inl ⟨hs, k F H _ _ (Stp.refl w) (rep_bl.mpr rfl) q⟩
  · exact .inr ⟨p, q, rep_dp w hx ea, rep_dp w hy eb, s1, s2, k F H _ _ (Stp.refl w) (rep_bl.mpr rfl) h⟩
theorem oo_lt : OpR X (compareOp .Lt) (fun x y H Q => (rI0 fun i j => .bl (decide (i < j))) x y H Q ∨ (∃ i j, x = .str i ∧ y = .str j ∧ Q (.bl (decide (i.cps.toList < j.cps.toList))) H)) := OpR.or op_lt op_lt_str
/-- comparisons of ints -/
def fIB (g : Int → Int → Bool) (x y : DV) (Q : DV → Prop) : Prop := match x, y with
  | .int i, .int j => Q (.bl (g i j))
  | _, _ => False
theorem od_ib {g : Int → Int → Bool} : OpD (rI0 fun i j => .bl (g i j)) (fIB g) := by
  intro B F H x y dx dy Q Q' w hx hy h k
  cases dx <;> first | exact False.elim h | (cases dy <;> first | exact False.elim h | skip)
  rw [rep_int.mp hx, rep_int.mp hy]; exact ⟨_, _, rfl, rfl, k F H _ _ (Stp.refl w) (rep_bl.mpr rfl) h⟩
/-- is None -/
def isNon : DV → Bool
  | .non => true
  | _ => false
def fIs (x y : DV) (Q : DV → Prop) : Prop := match y with
  | .non => Q (.bl (isNon x))
  | _ => False
theorem rep_isnon {F : Wo} {d : DV} {v : V} (h : Rep F d v) : decide (v = .non) = isNon d := by
  cases d with
  | non => rw [rep_non.mp h]; rfl
  | bl b => rw [rep_bl.mp h]; rfl
  | int b => rw [rep_int.mp h]; rfl
  | str b => rw [rep_str.mp h]; rfl
  | tup xs => obtain ⟨a, vs, rfl, _⟩ := rep_tup.mp h; rfl
  | lst xs => obtain ⟨a, vs, rfl, _⟩ := rep_lst.mp h; rfl
  | dic ks xs => obtain ⟨a, vs, rfl, _⟩ := rep_dic.mp h; rfl
  | obj C ns xs => obtain ⟨a, dx, vs, rfl, _⟩ := rep_obj.mp h; rfl
  | bag a => rw [(rep_bag.mp h).1]; rfl
  | ty n => rw [rep_ty.mp h]; rfl
  | cls C => rw [rep_cls.mp h]; rfl
  | lsa a xs => rw [(rep_lsa.mp h).1]; rfl
  | osa a C ns xs => rw [(rep_osa.mp h).1]; rfl
  | exc a C dd ns xs => rw [(rep_exc.mp h).1]; rfl
theorem od_is : OpD (fun x y H Q => y = .non ∧ Q (.bl (decide (x = .non))) H) fIs := by
  intro B F H x y dx dy Q Q' w hx hy h k
  cases dy <;> first | exact False.elim h | skip
  rw [rep_non.mp hy, rep_isnon hx]; exact ⟨rfl, k F H _ _ (Stp.refl w) (rep_bl.mpr rfl) h⟩
def strIn (i z : Str) : Bool := !(Builtin.Str.occurrences z i 0 z.length 1).isEmpty
theorem strIn_one (c : Nat) (z : Str) : strIn ⟨#[c]⟩ z = decide (c ∈ z.cps.toList) := PySem.StrLaws.found_one z c
def scalsD : List DV → Option (List V)
  | [] => some []
  | d :: ds => match scalD d, scalsD ds with
    | some a, some as => some (a :: as)
    | _, _ => none
theorem reps_scals {F : Wo} : ∀ {ds : List DV} {vs as : List V}, Reps F ds vs → scalsD ds = some as → vs = as
  | [], _, _, h, e => by rw [reps_nil.mp h]; simpa [scalsD] using e
  | d :: ds, _, _, h, e => by
    obtain ⟨v, r, rfl, q, qs⟩ := reps_cons.mp h
    simp only [scalsD] at e
    split at e
    next a as h1 h2 => cases e; rw [rep_scal q h1, reps_scals qs h2]
    next => cases e
theorem scal_flat {d : DV} {a : V} (e : scalD d = some a) : flatV a = true := by
  cases d <;> first
    | (obtain rfl := Option.some.inj (show some _ = some a from e); rfl)
    | exact nomatch e
theorem scals_flat : ∀ {ds : List DV} {as : List V}, scalsD ds = some as → as.all flatV = true
  | [], _, e => by cases (Option.some.inj (show some [] = some _ from e)); rfl
  | d :: ds, _, e => by
    simp only [scalsD] at e
    split at e
    next a as h1 h2 => cases e; rw [List.all_cons, scal_flat h1, scals_flat h2]; rfl
    next => cases e
def keyD : DV → Option Key
  | .int i => some (.inl i)
  | .str x => some (.inr x)
  | _ => none
theorem rep_key {F : Wo} {d : DV} {v : V} {k : Key} (h : Rep F d v) (e : keyD d = some k) : v = kV k := by
  cases d <;> first
    | (obtain rfl := Option.some.inj (show some _ = some k from e); first | exact rep_int.mp h | exact rep_str.mp h)
    | exact nomatch e
/-- the answer of x in y -/
def fInB0 (x y : DV) (Q : Bool → Prop) : Prop := match y with
  | .str z => ∃ i, x = .str i ∧ Q (strIn i z)
  | .dic ks _ => ∃ k, keyD x = some k ∧ Q (ks.any fun q => decide (q = k))
  | .lst ys => match scalD x, scalsD ys with
    | some a, some as => Q (inV a as)
    | _, _ => ∃ p ps, toP x = some p ∧ toPs ys = some ps ∧ SeqAt.shaped p = true ∧ SeqAt.shaped (.list ps) = true ∧ Q (ps.any fun z => PyData.eqv z p)
  | .tup ys => ∃ a as, scalD x = some a ∧ scalsD ys = some as ∧ Q (inV a as)
  | _ => False
/-- (not unfolded by itself) -/
@[irreducible] def fInB (x y : DV) (Q : Bool → Prop) : Prop := fInB0 x y Q
theorem fInB_is {x y : DV} {Q : Bool → Prop} : fInB x y Q = fInB0 x y Q := by unfold fInB; rfl
theorem fInB_lst {x : DV} {ys : List DV} {Q : Bool → Prop} (h : fInB0 x (.lst ys) Q) : (∃ a as, scalD x = some a ∧ scalsD ys = some as ∧ Q (inV a as)) ∨
      ∃ p ps, toP x = some p ∧ toPs ys = some ps ∧ SeqAt.shaped p = true ∧ SeqAt.shaped (.list ps) = true ∧ Q (ps.any fun z => PyData.eqv z p) := by
  have h : (match scalD x, scalsD ys with
    | some a, some as => Q (inV a as)
    | _, _ => ∃ p ps, toP x = some p ∧ toPs ys = some ps ∧ SeqAt.shaped p = true ∧ SeqAt.shaped (.list ps) = true ∧ Q (ps.any fun z => PyData.eqv z p)) := h
  split at h
  next a b h1 h2 => exact .inl ⟨a, b, h1, h2, h⟩
  next => exact .inr h
def fIn (x y : DV) (Q : DV → Prop) : Prop := fInB x y fun b => Q (.bl b)
def fNin (x y : DV) (Q : DV → Prop) : Prop := fInB x y fun b => Q (.bl (!b))
def rInG (K : PySem.W.Frag) (neg : Bool) : R2 := fun x y H Q => (∃ i j, x = .str i ∧ y = .str j ∧ Q (.bl (if neg then !strIn i j else strIn i j)) H) ∨ rIn K neg x y H Q ∨
  (∃ d ds, Dp K H x d ∧ Dp K H y (.list ds) ∧ SeqAt.shaped d = true ∧ SeqAt.shaped (.list ds) = true ∧ Q (.bl (if neg then !ds.any (fun z => PyData.eqv z d) else ds.any fun z => PyData.eqv z d)) H) ∨
  (∃ a o, y = .ref a ∧ DGet H a x o ∧ Q (.bl (if neg then !o.isSome else o.isSome)) H)
theorem oo_in (hu : X.A.units + 100 < cLine) : OpR X (compareOp .In) (rInG X.K false) := by
  refine OpR.or op_in_str (OpR.or op_in_seq (OpR.or (op_inD (by omega)) ?_))
  intro pins s σ H x y v u Q I rx ry ⟨a, o, e, g, q⟩
  subst e
  obtain rfl : u = Value.ref a := ry
  exact d_in (by omega) I g rx fun s3 I3 => ⟨.bl o.isSome, H, I3, rfl, q⟩
theorem oo_nin (hu : X.A.units + 100 < cLine) : OpR X (compareOp .NotIn) (rInG X.K true) := by
  refine OpR.or op_notIn_str (OpR.or op_notIn_seq (OpR.or (op_notInD (by omega)) ?_))
  intro pins s σ H x y v u Q I rx ry ⟨a, o, e, g, q⟩
  subst e
  obtain rfl : u = Value.ref a := ry
  exact d_notIn (by omega) I g rx fun s3 I3 => ⟨.bl (!o.isSome), H, I3, rfl, q⟩
theorem mem_valV {kvs : List (Key × V)} {k : Key} : (valV kvs k).isSome = ((kvs.map (·.1)).any fun q => decide (q = k)) := by
  rw [← valV_any, List.any_map]
  rfl
theorem od_inG {K : PySem.W.Frag} {neg : Bool} : OpD (rInG K neg) (fun x y Q => fInB x y fun b => Q (.bl (if neg then !b else b))) := by
  intro B F H x y dx dy Q Q' w hx hy h k
  rw [fInB_is] at h
  cases dy with
  | str z =>
    obtain ⟨i, rfl, q⟩ := h
    rw [rep_str.mp hx, rep_str.mp hy]
    exact .inl ⟨i, z, rfl, rfl, k F H _ _ (Stp.refl w) (rep_bl.mpr rfl) q⟩
  | dic ks xs =>
    obtain ⟨c, e, q⟩ := h
    obtain ⟨a, kvs, rfl, f, hk, _⟩ := rep_dic.mp hy
    refine .inr (.inr (.inr ⟨a, valV kvs c, rfl, .inl ⟨kvs, c, w.rdD f, rep_key hx e, rfl⟩, ?_⟩))
    rw [mem_valV, hk]
    exact k F H _ _ (Stp.refl w) (rep_bl.mpr rfl) q
  | lst ys =>
    obtain ⟨a, vs, rfl, f, q⟩ := rep_lst.mp hy
    rcases fInB_lst h with ⟨b, as, e1, e2, h⟩ | ⟨p, ps, e1, e2, s1, s2, h⟩
    · have e3 := reps_scals q e2
      subst e3
      rw [rep_scal hx e1]
      exact .inr (.inl ⟨a, vs, rfl, .inl (SqL.of (w.sqL (K := K) f)), scal_flat e1, scals_flat e2, k F H _ _ (Stp.refl w) (rep_bl.mpr rfl) h⟩)
    · exact .inr (.inr (.inl ⟨p, ps, rep_dp w hx e1, .lst (SqL.of (w.sqL (K := K) f)) (rep_dps w q e2), s1, s2, k F H _ _ (Stp.refl w) (rep_bl.mpr rfl) h⟩))
  | tup ys =>
    obtain ⟨a, vs, rfl, f, q⟩ := rep_tup.mp hy
    obtain ⟨b, as, e1, e2, h⟩ := h
    have e3 := reps_scals q e2
    subst e3
    rw [rep_scal hx e1]
    exact .inr (.inl ⟨a, vs, rfl, .inr (SqT.of (w.sqT (K := K) f)), scal_flat e1, scals_flat e2, k F H _ _ (Stp.refl w) (rep_bl.mpr rfl) h⟩)
  | _ => exact False.elim h

theorem od_in {K : PySem.W.Frag} : OpD (rInG K false) fIn := od_inG
theorem od_nin {K : PySem.W.Frag} : OpD (rInG K true) fNin := od_inG

def lookD (ks : List Key) (vs : List DV) (k : Key) : Option DV := ((ks.zip vs).find? fun p => decide (p.1 = k)).map (·.2)
def fIx (x y : DV) (Q : DV → Prop) : Prop := match x with
  | .lst xs => ∃ i d, y = .int i ∧ atI xs i = some d ∧ Q d
  | .lsa _ xs => ∃ i d, y = .int i ∧ atI xs i = some d ∧ Q d
  | .tup xs => ∃ i d, y = .int i ∧ atI xs i = some d ∧ Q d
  | .str z => ∃ i c, y = .int i ∧ z.length ≤ sizeLine ∧ atI z.cps.toList i = some c ∧ Q (.str ⟨#[c]⟩)
  | .dic ks vs => ∃ k d, keyD y = some k ∧ lookD ks vs k = some d ∧ Q d
  | _ => False
def rIxDic : R2 := fun x y H Q => ∃ a v, x = .ref a ∧ DGet H a y (some v) ∧ Q v H
theorem ix_dic (hu : X.A.units + 100 < cLine) : IxR X rIxDic := by
  intro value slice pins s σ H x y v u Q I rx ry h hs
  obtain ⟨a, z, rfl, g, q⟩ := h
  obtain rfl : v = Value.ref a := rx
  exact PyProof.Rows.tail_any (dict_typeIs I g) PySem.F.slot_dict_getitem.lookup (d_getItem (by omega) I g ry fun w' s3 I3 rw' => ⟨z, H, I3, rw', q⟩) hs
theorem oo_ix (hu : X.A.units + 100 < cLine) : IxR X (fun x y H Q => rIx X.K x y H Q ∨ rIxDic x y H Q) := ix_seq.or (ix_dic hu)
theorem Reps.atI {F : Wo} {ds : List DV} {vs : List V} {i : Int} {d : DV} (h : Reps F ds vs) (e : L2.atI ds i = some d) : ∃ v, L2.atI vs i = some v ∧ Rep F d v := by
  unfold L2.atI at *
  rw [← h.length]
  cases z : ixN ds.length i with
  | none => rw [z] at e; cases e
  | some j =>
    rw [z] at e
    obtain ⟨v, hv, r⟩ := h.get (show ds[j]? = some d from e)
    exact ⟨v, hv, r⟩
theorem lookD_val {F : Wo} {k : Key} : ∀ {ds : List DV} {kvs : List (Key × V)} {d : DV}, Reps F ds (kvs.map (·.2)) → lookD (kvs.map (·.1)) ds k = some d → ∃ v, valV kvs k = some v ∧ Rep F d v
  | _, [], _, _, e => by simp [lookD] at e
  | ds, kv :: kvs, d, h, e => by
    cases ds with
    | nil => simp [lookD] at e
    | cons d0 ds =>
      obtain ⟨v, r, e0, q, qs⟩ := reps_cons.mp h
      rw [List.map_cons] at e0
      cases e0
      by_cases c : kv.1 = k
      · rw [valV_pos c]
        simp [lookD, List.find?_cons, c] at e
        subst e
        exact ⟨_, rfl, q⟩
      · rw [valV_neg c]
        simp [lookD, List.find?_cons, c] at e
        exact lookD_val qs (by simpa [lookD] using e)
theorem od_ix {K : PySem.W.Frag} : OpD (fun x y H Q => rIx K x y H Q ∨ rIxDic x y H Q) fIx := by
  intro B F H x y dx dy Q Q' w hx hy h k
  cases dx with
  | lst xs =>
    obtain ⟨a, vs, rfl, f, q⟩ := rep_lst.mp hx
    obtain ⟨i, d, rfl, e, h⟩ := h
    obtain ⟨v, hv, r⟩ := q.atI e
    rw [rep_int.mp hy]
    exact .inl (.inl ⟨a, vs, i, v, rfl, rfl, SqL.of (w.sqL (K := K) f), hv, k F H _ _ (Stp.refl w) r h⟩)
  | lsa a xs =>
    obtain ⟨rfl, vs, f, q⟩ := rep_lsa.mp hx
    obtain ⟨i, d, rfl, e, h⟩ := h
    obtain ⟨v, hv, r⟩ := q.atI e
    rw [rep_int.mp hy]
    exact .inl (.inl ⟨a, vs, i, v, rfl, rfl, SqL.of (w.sqL (K := K) f), hv, k F H _ _ (Stp.refl w) r h⟩)
  | tup xs =>
    obtain ⟨a, vs, rfl, f, q⟩ := rep_tup.mp hx
    obtain ⟨i, d, rfl, e, h⟩ := h
    obtain ⟨v, hv, r⟩ := q.atI e
    rw [rep_int.mp hy]
    exact .inl (.inr (.inl ⟨a, vs, i, v, rfl, rfl, SqT.of (w.sqT (K := K) f), hv, k F H _ _ (Stp.refl w) r h⟩))
  | str z =>
    obtain ⟨i, c, rfl, hz, e, h⟩ := h
    rw [rep_str.mp hx, rep_int.mp hy]
    exact .inl (.inr (.inr ⟨z, i, c, rfl, rfl, hz, e, k F H _ _ (Stp.refl w) (rep_str.mpr rfl) h⟩))
  | dic ks vs =>
    obtain ⟨c, d, e, l, h⟩ := h
    obtain ⟨a, kvs, rfl, f, hk, q⟩ := rep_dic.mp hx
    subst hk
    obtain ⟨v, hv, r⟩ := lookD_val q l
    exact .inr ⟨a, v, rfl, .inl ⟨kvs, c, w.rdD f, rep_key hy e, hv.symm⟩, k F H _ _ (Stp.refl w) r h⟩
  | _ => exact False.elim h
/-- the same of an own object -/
theorem own_ix {K : PySem.W.Frag} {B : Bs} {F : Wo} {H : Hp} {p : Addr} {y : V} {dx dy : DV} {Q : VK} {Q' : DV → Prop} (w : Wd B F H) (hx : OwnAt F H p dx) (hy : Rep F dy y) (h : fIx dx dy Q')
    (k : ∀ d v, Rep F d v → Q' d → Q v H) : rIx K (.ref p) y H Q ∨ rIxDic (.ref p) y H Q := by
  cases dx with
  | lst xs =>
    obtain ⟨vs, f, q⟩ := hx
    obtain ⟨i, d, rfl, e, h⟩ := h
    obtain ⟨v, hv, r⟩ := q.atI e
    rw [rep_int.mp hy]
    exact .inl (.inl ⟨p, vs, i, v, rfl, rfl, SqL.of f, hv, k _ _ r h⟩)
  | lsa a xs =>
    obtain ⟨rfl, vs, f, q⟩ := hx
    obtain ⟨i, d, rfl, e, h⟩ := h
    obtain ⟨v, hv, r⟩ := q.atI e
    rw [rep_int.mp hy]
    exact .inl (.inl ⟨p, vs, i, v, rfl, rfl, SqL.of f, hv, k _ _ r h⟩)
  | dic ks vs =>
    obtain ⟨c, d, e, l, h⟩ := h
    obtain ⟨kvs, f, hk, q⟩ := hx
    subst hk
    obtain ⟨v, hv, r⟩ := lookD_val q l
    exact .inr ⟨p, v, rfl, .inl ⟨kvs, c, .inl f, rep_key hy e, hv.symm⟩, k _ _ r h⟩
  | _ => first | exact False.elim hx | exact False.elim h
def cutD (xs : List DV) (lo hi : Option Int) : List DV := (xs.drop (HT.sIx xs.length 0 lo)).take (HT.sIx xs.length xs.length hi - HT.sIx xs.length 0 lo)
theorem Reps.cut {F : Wo} {ds : List DV} {vs : List V} (h : Reps F ds vs) (lo hi : Option Int) : Reps F (cutD ds lo hi) (cutV vs lo hi) := by
  unfold cutD cutV
  rw [← h.length]
  exact (h.drop _).take _
def fSl0 (x : DV) (lo hi : Option Int) (Q : DV → Prop) : Prop := match x with
  | .lst xs => Q (.lst (cutD xs lo hi))
  | .tup xs => Q (.tup (cutD xs lo hi))
  | .str z => z.length ≤ sizeLine ∧ Q (.str (cutS z lo hi))
  | _ => False
/-- (not unfolded by itself) -/
@[irreducible] def fSl (x : DV) (lo hi : Option Int) (Q : DV → Prop) : Prop := fSl0 x lo hi Q
theorem fSl_is {x : DV} {lo hi : Option Int} {Q : DV → Prop} : fSl x lo hi Q = fSl0 x lo hi Q := by unfold fSl; rfl
theorem oo_sl : SlR X (fun x lo hi H Q => rSlL X.K x lo hi H Q ∨ rSlA X.K x lo hi H Q ∨ rSlS x lo hi H Q) := SlR.or sl_list (SlR.or sl_tupA sl_str)
theorem od_sl {K : PySem.W.Frag} : SlD (fun x lo hi H Q => rSlL K x lo hi H Q ∨ rSlA K x lo hi H Q ∨ rSlS x lo hi H Q) fSl := by
  intro B F H x dx lo hi Q Q' w hx h k
  rw [fSl_is] at h
  cases dx with
  | lst xs =>
    obtain ⟨a, vs, rfl, f, q⟩ := rep_lst.mp hx
    refine .inl ⟨a, vs, rfl, SqL.of (w.sqL (K := K) f), fun p hp => ?_⟩
    obtain ⟨s, hr⟩ := Stp.lstN w hp (q.cut lo hi)
    exact k _ _ _ _ s hr h
  | tup xs =>
    obtain ⟨a, vs, rfl, f, q⟩ := rep_tup.mp hx
    refine .inr (.inl ⟨a, vs, rfl, SqT.of (w.sqT (K := K) f), fun e => ?_, fun _ p hp => ?_⟩)
    · have z : cutD xs lo hi = xs := by
        unfold cutD
        rw [q.length, e.1, e.2]
        rw [List.drop_zero, Nat.sub_zero, ← q.length, List.take_length]
      have h : Q' (.tup (cutD xs lo hi)) := h
      rw [z] at h
      exact k F H _ _ (Stp.refl w) hx h
    · obtain ⟨s, hr⟩ := Stp.tupN w hp (q.cut lo hi)
      exact k _ _ _ _ s hr h
  | str z =>
    rw [rep_str.mp hx]
    exact .inr (.inr ⟨z, rfl, h.1, k F H _ _ (Stp.refl w) (rep_str.mpr rfl) h.2⟩)
  | _ => exact False.elim h
end
end DL

namespace DL
open PySem L2

structure DEnds where
  nx : DSt → Prop
  rt : DV → DSt → Prop
  bk : DSt → Prop := fun _ => False
  ct : DSt → Prop := fun _ => False
  ro : DV → Prop := fun _ => False
abbrev ASt := DEnds → DSt → Prop
structure EOk (B : Bs) (F : Wo) (K : DEnds) (D : Ends) : Prop where
  nx : ∀ F' H' σ' ρ', Wd B F' H' → Ext F F' → RSt B F' ρ' σ' H' → K.nx ρ' → D.nx σ' H'
  bk : ∀ F' H' σ' ρ', Wd B F' H' → Ext F F' → RSt B F' ρ' σ' H' → K.bk ρ' → D.bk σ' H'
  ct : ∀ F' H' σ' ρ', Wd B F' H' → Ext F F' → RSt B F' ρ' σ' H' → K.ct ρ' → D.ct σ' H'
  rt : ∀ F' H' σ' ρ' d v, Wd B F' H' → Ext F F' → RSt B F' ρ' σ' H' → Rep F' d v → K.rt d ρ' → D.rt v H'
  ro : ∀ F' H' d p, Wd B F' H' → Ext F F' → OwnAt F' H' p d → (Nw B.H p ∧ F'.fz p = none ∧ F'.ce p = none ∧ B.L p = none) → K.ro d → D.rt (.ref p) H'
theorem EOk.mono {B : Bs} {F F1 : Wo} {K : DEnds} {D : Ends} (h : EOk B F K D) (x : Ext F F1) : EOk B F1 K D :=
  ⟨fun F' H' σ' ρ' w e => h.nx F' H' σ' ρ' w (x.trans e), fun F' H' σ' ρ' w e => h.bk F' H' σ' ρ' w (x.trans e), fun F' H' σ' ρ' w e => h.ct F' H' σ' ρ' w (x.trans e), fun F' H' σ' ρ' d v w e => h.rt F' H' σ' ρ' d v w (x.trans e), fun F' H' d p w e => h.ro F' H' d p w (x.trans e)⟩
inductive TSi (Z : Zx) (a : ASt) (D : Ends) (σ : St) (H : Hp) : Prop
  | mk (L : Addr → Option HO) (F : Wo) (ρ : DSt) (K : DEnds) (w : Wd (Z.b L) F H) (r : RSt (Z.b L) F ρ σ H) (q : a K ρ) (k : EOk (Z.b L) F K D) : TSi Z a D σ H
def tDS (Z : Zx) (a : ASt) : TS := fun D σ H => TSi Z a D σ H
structure DS (Z : Zx) (X : Cx) (s : Stmt) (a : ASt) : Prop where
  ps : PS X s (tDS Z a)
structure DSs (Z : Zx) (X : Cx) (s : List Stmt) (a : ASt) : Prop where
  ps : PSs X s (tDS Z a)
theorem ps_imp {X : Cx} {s : Stmt} {t t' : TS} (h : PS X s t) (k : ∀ D σ H, t' D σ H → t D σ H) : PS X s t' :=
  ⟨fun pins s σ H D I w => h.run pins s σ H D I (k D σ H w)⟩
theorem pss_imp {X : Cx} {s : List Stmt} {t t' : TS} (h : PSs X s t) (k : ∀ D σ H, t' D σ H → t D σ H) : PSs X s t' :=
  ⟨fun pins s σ H D I w => h.run pins s σ H D I (k D σ H w)⟩

section
variable {Z : Zx} {X : Cx} {pos : Pos} {st : Stmt} {rest : List Stmt} {s1 s2 : List Stmt} {t u : ASt} {e : Expr} {a : AE}
def dSkip : ASt := fun K ρ => K.nx ρ
/-- one after another; in dSeqC what holds between, M, may be chosen -/
def dSeq (t u : ASt) : ASt := fun K ρ => t { nx := fun ρ1 => u K ρ1, rt := K.rt, bk := K.bk, ct := K.ct, ro := K.ro } ρ
def dSeqC (t u : ASt) : ASt := fun K ρ => ∃ M : DSt → Prop, t { nx := M, rt := K.rt, bk := K.bk, ct := K.ct, ro := K.ro } ρ ∧ ∀ ρ', M ρ' → u K ρ'
theorem dss_nil : DSs Z X [] dSkip := ⟨pss_imp pss_nil fun D σ H ⟨B, F, ρ, K, w, r, a, k⟩ => k.nx F H σ ρ w (Ext.refl F) r a⟩
theorem dss_cutc (h1 : DS Z X st t) (h2 : DSs Z X rest u) : DSs Z X (st :: rest) (dSeqC t u) := by
  refine ⟨pss_imp (pss_cons h1.ps h2.ps) fun D σ H h => ?_⟩
  obtain ⟨B, F, ρ, K, w, r, ⟨M, q, z⟩, k⟩ := h
  refine ⟨B, F, ρ, _, w, r, q, ⟨fun F' H' σ' ρ' w' x' r' q' => ?_, k.bk, k.ct, k.rt, k.ro⟩⟩
  exact ⟨B, F', ρ', K, w', r', z ρ' q', k.mono x'⟩
theorem dss_cons (h1 : DS Z X st t) (h2 : DSs Z X rest u) : DSs Z X (st :: rest) (dSeq t u) :=
  ⟨pss_imp (dss_cutc h1 h2).ps fun D σ H ⟨B, F, ρ, K, w, r, q, k⟩ => ⟨B, F, ρ, K, w, r, ⟨u K, q, fun _ z => z⟩, k⟩⟩
theorem dss_one (h1 : DS Z X st t) : DSs Z X [st] t := ⟨pss_one h1.ps⟩
def dDrop (a : AE) : ASt := fun K ρ => a ρ fun _ ρ1 => K.nx ρ1
theorem ds_expr (h : DE Z X e a) (hs : swapsWith e none pos.line X.env = pure false := by rfl) : DS Z X (.Expr e pos) (dDrop a) := by
  refine ⟨ps_imp (ps_expr h.pe hs) fun D σ H h => ?_⟩
  obtain ⟨B, F, ρ, K, w, r, q, k⟩ := h
  exact ⟨B, F, ρ, _, w, r, q, fun F' H' ρ' d v w' x' r' hr q' => k.nx F' H' σ ρ' w' x' r' q'⟩
def dRet (a : AE) : ASt := fun K ρ => a ρ fun d ρ1 => K.rt d ρ1
theorem ds_ret (h : DE Z X e a) : DS Z X (.Return (some e) pos) (dRet a) := by
  refine ⟨ps_imp (ps_ret h.pe) fun D σ H h => ?_⟩
  obtain ⟨B, F, ρ, K, w, r, q, k⟩ := h
  exact ⟨B, F, ρ, _, w, r, q, fun F' H' ρ' d v w' x' r' hr q' => k.rt F' H' σ ρ' d v w' x' r' hr q'⟩
def dRetN : ASt := fun K ρ => K.rt .non ρ
theorem ds_retN : DS Z X (.Return none pos) dRetN := ⟨ps_imp ps_retN fun D σ H ⟨B, F, ρ, K, w, r, a, k⟩ => k.rt F H σ ρ _ _ w (Ext.refl F) r (rep_non.mpr rfl) a⟩
def dIfS (c : AT) (t u : ASt) : ASt := fun K ρ => c ρ fun b ρ1 => if b = true then t K ρ1 else u K ρ1
theorem ds_if {c : AT} (hc : DT Z X e c) (h1 : DSs Z X s1 t) (h2 : DSs Z X s2 u) : DS Z X (.If e s1 s2 pos) (dIfS c t u) := by
  refine ⟨ps_imp (ps_if hc.pt h1.ps h2.ps) fun D σ H h => ?_⟩
  obtain ⟨B, F, ρ, K, w, r, q, k⟩ := h
  refine ⟨B, F, ρ, _, w, r, q, fun F' H' ρ' b w' x' r' q' => ?_⟩
  cases b with
  | true => rw [if_pos rfl] at q' ⊢; exact ⟨B, F', ρ', K, w', r', q', k.mono x'⟩
  | false => rw [if_neg Bool.false_ne_true] at q' ⊢; exact ⟨B, F', ρ', K, w', r', q', k.mono x'⟩
abbrev AG := DV → DSt → (DSt → Prop) → Prop
abbrev AGs := List DV → DSt → (DSt → Prop) → Prop
/-- but for the slots of js -/
def Butt (js : List Nat) (σ σ' : St) : Prop := σ'.length = σ.length ∧ ∀ j, j ∉ js → σ'[j]? = σ[j]?
inductive TGi (Z : Zx) (js : List Nat) (g : AG) (v : V) (σ : St) (H : Hp) (Q : St → Hp → Prop) : Prop
  | mk (L : Addr → Option HO) (F : Wo) (ρ : DSt) (d : DV) (Q' : DSt → Prop) (w : Wd (Z.b L) F H) (r : RSt (Z.b L) F ρ σ H) (h : Rep F d v) (q : g d ρ Q')
    (k : ∀ F' H' σ' ρ', Wd (Z.b L) F' H' → Ext F F' → RSt (Z.b L) F' ρ' σ' H' → Q' ρ' → Butt js σ σ' → Q σ' H') : TGi Z js g v σ H Q
def tDG (Z : Zx) (js : List Nat) (g : AG) : TG := fun v σ H Q => TGi Z js g v σ H Q
inductive TGsi (Z : Zx) (js : List Nat) (g : AGs) (vs : List V) (σ : St) (H : Hp) (Q : St → Hp → Prop) : Prop
  | mk (L : Addr → Option HO) (F : Wo) (ρ : DSt) (ds : List DV) (Q' : DSt → Prop) (w : Wd (Z.b L) F H) (r : RSt (Z.b L) F ρ σ H) (h : Reps F ds vs) (q : g ds ρ Q')
    (k : ∀ F' H' σ' ρ', Wd (Z.b L) F' H' → Ext F F' → RSt (Z.b L) F' ρ' σ' H' → Q' ρ' → Butt js σ σ' → Q σ' H') : TGsi Z js g vs σ H Q
def tDGs (Z : Zx) (js : List Nat) (g : AGs) : TGs := fun vs σ H Q => TGsi Z js g vs σ H Q
structure DG (Z : Zx) (X : Cx) (js : List Nat) (tg : Expr) (g : AG) : Prop where
  pg : PG X tg (tDG Z js g)
structure DGs (Z : Zx) (X : Cx) (js : List Nat) (ts : List Expr) (g : AGs) : Prop where
  pg : PGs X ts (tDGs Z js g)
theorem pg_imp {X : Cx} {e : Expr} {t t' : TG} (h : PG X e t) (k : ∀ v σ H Q, t' v σ H Q → t v σ H Q) : PG X e t' :=
  ⟨fun pins s σ H v u Q I r w => h.run pins s σ H v u Q I r (k v σ H Q w)⟩
theorem pgs_imp {X : Cx} {e : List Expr} {t t' : TGs} (h : PGs X e t) (k : ∀ v σ H Q, t' v σ H Q → t v σ H Q) : PGs X e t' :=
  ⟨fun pins s σ H v u Q I r w => h.run pins s σ H v u Q I r (k v σ H Q w)⟩
theorem RSt.put' {B : Bs} {F : Wo} {ρ : DSt} {σ : St} {H : Hp} (r : RSt B F ρ σ H) (i : Nat) {d : DV} {v : V} (h : Rep F d v) : RSt B F (ρ.set i (some (Lv.val d))) (σ.set i (some v)) H := by
  by_cases hi : i < ρ.length
  · exact r.put hi h
  · rw [List.set_eq_of_length_le (by omega), List.set_eq_of_length_le (by rw [← r.len]; omega)]; exact r
variable {js ks : List Nat}
def gN (i : Nat) : AG := fun d ρ Q => Q (ρ.set i (some (Lv.val d)))
theorem butt_set {i : Nat} {σ : St} {v : Option V} : Butt [i] σ (σ.set i v) := by
  refine ⟨List.length_set, fun j hj => ?_⟩
  have : j ≠ i := by simpa using hj
  rw [List.getElem?_set_ne (Ne.symm this)]
theorem dg_name {i : Nat} {x : Str} (hN : X.N.Nodup) (hi : X.N[i]? = some x) (hx : Loc X.env.scope x) (hf : X.fn x = true ∨ X.env.scope.names.lookup x = some .local := by first | exact .inl rfl | exact .inr rfl | assumption) : DG Z X [i] (.Name x pos) (gN i) :=
  ⟨pg_imp (pg_name hN hi hx hf) fun v σ H Q ⟨B, F, ρ, d, Q', w, r, hr, g, k⟩ => k F H _ _ w (Ext.refl F) (r.put' i hr) g butt_set⟩
def gNl : AGs := fun ds ρ Q => ds = [] ∧ Q ρ
def gCn (g : AG) (u : AGs) : AGs := fun ds ρ Q => match ds with
  | [] => False
  | d :: r => g d ρ fun ρ1 => u r ρ1 Q
theorem dgs_nil : DGs Z X [] [] gNl := by
  refine ⟨pgs_imp pgs_nil fun vs σ H Q ⟨B, F, ρ, ds, Q', w, r, hr, g, k⟩ => ?_⟩
  obtain ⟨rfl, q⟩ := g
  exact ⟨reps_nil.mp hr, k F H σ ρ w (Ext.refl F) r q ⟨rfl, fun _ _ => rfl⟩⟩
theorem dgs_cons {e : Expr} {es : List Expr} {g : AG} {u : AGs} (h1 : DG Z X js e g) (h2 : DGs Z X ks es u) (hs : (assignEach (e :: es) X.env).map (·.2) = assign e X.env :: (assignEach es X.env).map (·.2) := by rfl) : DGs Z X (js ++ ks) (e :: es) (gCn g u) := by
  refine ⟨pgs_imp (pgs_cons h1.pg h2.pg hs) fun vs σ H Q ⟨B, F, ρ, ds, Q', w, r, hr, q, k⟩ => ?_⟩
  cases ds with
  | nil => exact False.elim q
  | cons d ds =>
    obtain ⟨v, vs, rfl, hd, hds⟩ := reps_cons.mp hr
    refine ⟨v, vs, rfl, B, F, ρ, d, _, w, r, hd, q, fun F1 H1 σ1 ρ1 w1 x1 r1 q1 b1 => ?_⟩
    refine ⟨B, F1, ρ1, ds, Q', w1, r1, hds.mono x1, q1, fun F2 H2 σ2 ρ2 w2 x2 r2 q2 b2 => k F2 H2 σ2 ρ2 w2 (x1.trans x2) r2 q2 ⟨b2.1.trans b1.1, fun j hj => ?_⟩⟩
    rw [List.mem_append, not_or] at hj
    exact (b2.2 j hj.2).trans (b1.2 j hj.1)
def dAsg (a : AE) (g : AG) : ASt := fun K ρ => a ρ fun x ρ1 => g x ρ1 K.nx
theorem ds_asg {tg : Expr} {g : AG} (he : DE Z X e a) (hg : DG Z X js tg g) (hs : swapsWithSole [tg] e pos.line X.env = pure false := by rfl) (hw : swappedStores [tg] e X.env = pure none := by rfl)
    (h1 : (assignEach [tg] X.env).map (·.2) = [assign tg X.env] := by rfl) : DS Z X (.Assign [tg] e pos) (dAsg a g) := by
  refine ⟨ps_imp (ps_asg he.pe hg.pg hs hw h1) fun D σ H h => ?_⟩
  obtain ⟨B, F, ρ, K, w, r, q, k⟩ := h
  refine ⟨B, F, ρ, _, w, r, q, fun F' H' ρ' d v w' x' r' hr q' => ?_⟩
  exact ⟨B, F', ρ', d, _, w', r', hr, q', fun F2 H2 σ2 ρ2 w2 x2 r2 q2 _ => k.nx F2 H2 σ2 ρ2 w2 (x'.trans x2) r2 q2⟩
theorem ds_set {i : Nat} {x : Str} {pos' : Pos} (hN : X.N.Nodup) (hi : X.N[i]? = some x) (hx : Loc X.env.scope x) (he : DE Z X e a) (hs : swapsWith e (some (.Name x pos')) pos.line X.env = pure false := by rfl) (hf : X.fn x = true ∨ X.env.scope.names.lookup x = some .local := by first | exact .inl rfl | exact .inr rfl | assumption) :
    DS Z X (.Assign [.Name x pos'] e pos) (dAsg a (gN i)) := by
  refine ⟨ps_imp (ps_set hN hi hx he.pe hs hf) fun D σ H h => ?_⟩
  obtain ⟨B, F, ρ, K, w, r, q, k⟩ := h
  refine ⟨B, F, ρ, _, w, r, q, fun F' H' ρ' d v w' x' r' hr q' => ?_⟩
  exact k.nx F' H' _ _ w' x' (r'.put' i hr) q'
/-- a, b = e1, e2 -/
def dPar (i j : Nat) (t : AA) : ASt := fun K ρ => t ρ fun ds ρ1 => match ds with
  | [x, y] => K.nx ((ρ1.set i (some (Lv.val x))).set j (some (Lv.val y)))
  | _ => False
theorem ds_par {i j : Nat} {x y : Str} {e1 e2 : Expr} {t : AA} {px py pt : Pos} {kt k2 pt2} (hc : X.calm = true) (hN : X.N.Nodup) (hi : X.N[i]? = some x) (hj : X.N[j]? = some y) (hij : i ≠ j)
    (hx : X.env.scope.names.lookup x = some .local) (hy : X.env.scope.names.lookup y = some .local) (ha : DA Z X [e1, e2] t)
    (hw : swappedStores [.Tuple [.Name x px, .Name y py] kt pt] (.Tuple [e1, e2] k2 pt2) X.env = pure (some [x, y]))
    (hs : swapsWithSole [.Tuple [.Name x px, .Name y py] kt pt] (.Tuple [e1, e2] k2 pt2) pos.line X.env = pure false := by rfl) :
    DS Z X (.Assign [.Tuple [.Name x px, .Name y py] kt pt] (.Tuple [e1, e2] k2 pt2) pos) (dPar i j t) := by
  refine ⟨ps_imp (ps_par hc hN hi hj hij hx hy ha.pa hw hs) fun D σ H h => ?_⟩
  obtain ⟨B, F, ρ, K, w, r, q, k⟩ := h
  refine ⟨B, F, ρ, _, w, r, q, fun F' H' ρ' ds vs w' x' r' hr q' => ?_⟩
  match ds, q' with
  | [d1, d2], q' =>
    obtain ⟨v1, vs, rfl, h1, hr⟩ := reps_cons.mp hr
    obtain ⟨v2, vs, rfl, h2, hr⟩ := reps_cons.mp hr
    rw [reps_nil.mp hr]
    exact ⟨v1, v2, rfl, k.nx F' H' _ _ w' x' ((r'.put' i h1).put' j h2) q'⟩
end

/-- what is walked: the items, as they stand from F on -/
structure IOk (F : Wo) (J : It) (ds : List DV) : Prop where
  go : ∀ B F2 H2 i, Wd B F2 H2 → Ext F F2 → i < ds.length → J.go i H2
  stop : ∀ B F2 H2, Wd B F2 H2 → Ext F F2 → J.stop ds.length H2
  yld : ∀ B F2 H2 i x H', Wd B F2 H2 → Ext F F2 → i < ds.length → J.yld i H2 x H' → ∃ F' d, Stp B F2 H2 F' H' ∧ ds[i]? = some d ∧ Rep F' d x
abbrev AI := DSt → (List DV → DSt → Prop) → Prop
inductive TIi (Z : Zx) (a : AI) (σ : St) (H : Hp) (R : It → Hp → Prop) : Prop
  | mk (L : Addr → Option HO) (F : Wo) (ρ : DSt) (Q' : List DV → DSt → Prop) (w : Wd (Z.b L) F H) (r : RSt (Z.b L) F ρ σ H) (q : a ρ Q')
    (k : ∀ F' H' ρ' ds J, Wd (Z.b L) F' H' → Ext F F' → RSt (Z.b L) F' ρ' σ H' → IOk F' J ds → Q' ds ρ' → R J H') : TIi Z a σ H R
def tDI (Z : Zx) (a : AI) : TI := fun σ H R => TIi Z a σ H R
structure DI (Z : Zx) (X : Cx) (tg e : Expr) (a : AI) : Prop where
  pi : PI X tg e (tDI Z a)
section
variable {Z : Zx} {X : Cx} {pos : Pos} {tg e : Expr} {a : AE}
theorem iok_list {F : Wo} {p : Addr} {vs : List V} {ds : List DV} {K : PySem.W.Frag} (f : F.fz p = some (.lst vs)) (h : Reps F ds vs) : IOk F (Itl K p) ds := by
  have key : ∀ B F2 H2, Wd B F2 H2 → Ext F F2 → SqL K H2 p vs := fun B F2 H2 w e => SqL.of (w.sqL (K := K) (e.1 _ _ f))
  have hl := h.length
  refine ⟨fun B F2 H2 i w e hi => ⟨vs, vs[i]'(by omega), key B F2 H2 w e, by simp⟩, fun B F2 H2 w e => ⟨vs, key B F2 H2 w e, by omega⟩, fun B F2 H2 i x H' w e hi y => ?_⟩
  obtain ⟨rfl, y⟩ := y
  obtain ⟨d, hd, hr⟩ := h.getV (y vs (key B F2 _ w e))
  exact ⟨F2, d, Stp.refl w, hd, hr.mono e⟩
theorem iok_tup {F : Wo} {p : Addr} {vs : List V} {ds : List DV} {K : PySem.W.Frag} (f : F.fz p = some (.tup vs)) (h : Reps F ds vs) : IOk F (Itt K p) ds := by
  have key : ∀ B F2 H2, Wd B F2 H2 → Ext F F2 → SqT K H2 p vs := fun B F2 H2 w e => SqT.of (w.sqT (K := K) (e.1 _ _ f))
  have hl := h.length
  refine ⟨fun B F2 H2 i w e hi => ⟨vs, vs[i]'(by omega), key B F2 H2 w e, by simp⟩, fun B F2 H2 w e => ⟨vs, key B F2 H2 w e, by omega⟩, fun B F2 H2 i x H' w e hi y => ?_⟩
  obtain ⟨rfl, y⟩ := y
  obtain ⟨d, hd, hr⟩ := h.getV (y vs (key B F2 _ w e))
  exact ⟨F2, d, Stp.refl w, hd, hr.mono e⟩
def signs (z : Str) : List DV := z.cps.toList.map fun c => .str ⟨#[c]⟩
theorem iok_str {F : Wo} {z : Str} : IOk F (Its z) (signs z) := by
  have hl : (signs z).length = z.cps.size := by simp [signs]
  refine ⟨fun B F2 H2 i w e hi => (show i < z.cps.size by omega), fun B F2 H2 w e => (show z.cps.size ≤ _ by omega), fun B F2 H2 i x H' w e hi y => ?_⟩
  obtain ⟨rfl, c, hc, rfl⟩ := y
  refine ⟨F2, .str ⟨#[c]⟩, Stp.refl w, ?_, rep_str.mpr rfl⟩
  simp [signs, hc]
def rangeD (lo : Int) (n : Nat) : List DV := (List.range n).map fun i => .int (lo + (i : Nat))
theorem iok_range {F : Wo} {lo : Int} {n : Nat} : IOk F (Itr lo n) (rangeD lo n) := by
  have hl : (rangeD lo n).length = n := by simp [rangeD]
  refine ⟨fun B F2 H2 i w e hi => (show i < n by omega), fun B F2 H2 w e => (show n ≤ _ by omega), fun B F2 H2 i x H' w e hi y => ?_⟩
  obtain ⟨rfl, rfl⟩ := y
  refine ⟨F2, _, Stp.refl w, ?_, rep_int.mpr rfl⟩
  simp [rangeD, show i < n by omega]
def keyV : Key → DV
  | .inl i => .int i
  | .inr x => .str x
theorem rep_keyV {F : Wo} (k : Key) : Rep F (keyV k) (kV k) := by
  cases k
  · exact rep_int.mpr rfl
  · exact rep_str.mpr rfl
theorem iok_keys {F : Wo} {p : Addr} {kvs : List (Key × V)} {ob : Obj} (f : F.fz p = some (.dK kvs)) (hk : F.lk p = some ob) : IOk F (Itk p ob kvs) ((kvs.map (·.1)).map keyV) := by
  have hl : ((kvs.map (·.1)).map keyV).length = kvs.length := by simp
  have wk := walk_keys (d := p) (o := ob) (kvs := kvs)
  have hp : ∀ B F2 H2, Wd B F2 H2 → Ext F F2 → H2 p = some (.frz ob (.dK kvs)) := fun B F2 H2 w e => by
    obtain ⟨k2, f2, h2⟩ := w.lk p ob (e.2.2 p ob hk)
    rw [e.1 p _ f] at f2; cases f2; exact h2
  refine ⟨fun B F2 H2 i w e hi => wk.goes i H2 (by omega) (hp B F2 H2 w e), fun B F2 H2 w e => by rw [hl]; exact wk.stops H2 (hp B F2 H2 w e), fun B F2 H2 i x H' w e hi y => ?_⟩
  obtain ⟨rfl, k, v, hk, rfl⟩ := wk.yields i H2 x H' (by omega) (hp B F2 H2 w e) y
  exact ⟨F2, keyV k, Stp.refl w, by rw [List.getElem?_map, List.getElem?_map, hk]; rfl, rep_keyV k⟩
/-- a list, a tuple, a text, a dict's keys -/
def fSeq (d : DV) (Q : List DV → Prop) : Prop := match d with
  | .lst xs => Q xs
  | .tup xs => Q xs
  | .str z => Q (signs z)
  | .dic ks _ => Q (ks.map keyV)
  | _ => False
def dIt (a : AE) : AI := fun ρ Q => a ρ fun d ρ1 => fSeq d fun ds => Q ds ρ1
theorem di_seq (h : DE Z X e a) : DI Z X tg e (dIt a) := by
  refine ⟨⟨fun pins s σ H R I h0 => ?_⟩⟩
  obtain ⟨L, F, ρ, Q', w, r, q, k⟩ := h0
  refine thn (h.pe.run pins s σ H (fun x H1 => ∃ F1 ρ1 d, Wd (Z.b L) F1 H1 ∧ Ext F F1 ∧ RSt (Z.b L) F1 ρ1 σ H1 ∧ Rep F1 d x ∧ fSeq d (fun ds => Q' ds ρ1)) I ⟨L, F, ρ, _, w, r, q, fun F' H' ρ' d v w' x' r' hr q' => ⟨F', ρ', d, w', x', r', hr, q'⟩⟩) fun u s1 h1 => ?_
  obtain ⟨x, H1, I1, rx, F1, ρ1, d, w1, x1, r1, hr, q1⟩ := h1
  cases d with
  | lst ds =>
    obtain ⟨p, vs, rfl, f, hs⟩ := rep_lst.mp hr
    cases rx
    obtain ⟨its, _, pl, _⟩ := I1.list (SqL.of (w1.sqL (K := X.K) f))
    exact wpAny_pyIter_list pl.isList (pi_one (tk := s1.toks) I1 _ (turn_list p _) ⟨_, Heap.get?_push_size _ rfl, rfl, rfl⟩ (k F1 H1 ρ1 ds _ w1 x1 r1 (iok_list f hs) q1))
  | tup ds =>
    obtain ⟨p, vs, rfl, f, hs⟩ := rep_tup.mp hr
    cases rx
    obtain ⟨its, _, pl, _⟩ := I1.tuple (SqT.of (w1.sqT (K := X.K) f))
    exact wpAny_pyIter_tuple (show s1.heap.IsTuple p its.toArray from pl) (pi_one (tk := s1.toks) I1 _ (turn_tuple p _) ⟨_, Heap.get?_push_size _ rfl, rfl, rfl⟩ (k F1 H1 ρ1 ds _ w1 x1 r1 (iok_tup f hs) q1))
  | str z =>
    have e := rep_str.mp hr
    subst e
    obtain ⟨t, rfl⟩ := rx
    have go := k F1 H1 ρ1 (signs z) (Its z) w1 x1 r1 iok_str q1
    cases ha : z.cps.all (· < 128)
    · exact wpAny_pyIter_wide ha (pi_one (tk := s1.toks) I1 _ (turn_str _ z t "str_iterator" (.inr rfl)) ⟨_, Heap.get?_push_size _ rfl, rfl, rfl⟩ go)
    · exact wpAny_pyIter_ascii ha (pi_one (tk := s1.toks) I1 _ (turn_str _ z t "str_ascii_iterator" (.inl rfl)) ⟨_, Heap.get?_push_size _ rfl, rfl, rfl⟩ go)
  | dic ks ds =>
    obtain ⟨p, kvs, rfl, f, ek, hs⟩ := rep_dic.mp hr
    cases rx
    subst ek
    have key : ∀ (ob : Obj) (H2 : Hp), Inv X pins σ H2 s1 → H2 p = some (.frz ob (.dK kvs)) → Stp (Z.b L) F1 H1 (F1.seal p ob) H2 → wpAny (model X.prog X.w) X.A (pyIter (.ref p)) (PIE X pins σ tg R) X.xe s1 := fun ob H2 I2 hd st => by
      obtain ⟨hs', hgd, hx, es, ep, vs, hdt, hsz, kv, hm⟩ := I2.frzK hd
      refine iter_keys hs' hgd hx hdt (pi_one (tk := s1.toks) I2 _ (turn_keys _ hdt) ⟨_, Heap.get?_push_size _ rfl, rfl, by rw [hsz] <;> rfl⟩ (k _ H2 ρ1 _ _ st.wd (x1.trans st.ext) (st.st _ _ r1) (iok_keys (ob := ob) f (if_pos rfl)) q1))
    rcases w1.fz p _ f with hp | ⟨_, ob, hp⟩
    · obtain ⟨ob, I2⟩ := I1.lock hp (by trivial)
      exact key ob _ I2 upd_same (w1.lock f hp)
    · exact key ob H1 I1 hp (w1.sealed f hp)
  | _ => exact False.elim q1
/-- range(n), range(a, b) -/
def dRng1 (t : AA) : AI := fun ρ Q => t ρ fun ds ρ1 => match ds with
  | [.int j] => -(2 ^ 62) ≤ j ∧ j < 2 ^ 62 ∧ Q (rangeD 0 j.toNat) ρ1
  | _ => False
theorem di_rng1 {e1 : Expr} {t : AA} {p : Pos} (hg : Gl X "range") (hm : X.mg "range" = none) (ha : DA Z X [e1] t) (hs : starEach [e1] X.env = [(false, eval e1 X.env)] := by rfl) : DI Z X tg (.Call (.Name "range" p) [e1] [] pos) (dRng1 t) := by
  refine ⟨⟨fun pins s σ H R I h0 => (pi_range1 hg hm ha.pa hs).run pins s σ H R I ?_⟩⟩
  obtain ⟨B, F, ρ, Q', w, r, q, k⟩ := h0
  refine ⟨B, F, ρ, _, w, r, q, fun F1 H1 ρ1 ds vs w1 x1 r1 hs q1 => ?_⟩
  match ds, q1 with
  | [.int j], q1 =>
    obtain ⟨v, vs, rfl, hv, hs⟩ := reps_cons.mp hs
    rw [reps_nil.mp hs, rep_int.mp hv]
    exact ⟨j, rfl, q1.1, q1.2.1, k F1 H1 ρ1 _ _ w1 x1 r1 iok_range q1.2.2⟩
def dWalk0 (g : AG) (t : ASt) (K : DEnds) : List DV → DSt → Prop
  | [], ρ => K.nx ρ
  | d :: ds, ρ => g d ρ fun ρ1 => t { nx := fun ρ2 => dWalk0 g t K ds ρ2, rt := K.rt, bk := K.nx, ct := fun ρ2 => dWalk0 g t K ds ρ2 } ρ1
/-- (not unfolded by itself: the list may be written out) -/
@[irreducible] def dWalk (g : AG) (t : ASt) (K : DEnds) (ds : List DV) (ρ : DSt) : Prop := dWalk0 g t K ds ρ
theorem dWalk_nil {g : AG} {t : ASt} {K : DEnds} {ρ : DSt} : dWalk g t K [] ρ = K.nx ρ := by unfold dWalk; rfl
theorem dWalk_cons {g : AG} {t : ASt} {K : DEnds} {d : DV} {ds : List DV} {ρ : DSt} : dWalk g t K (d :: ds) ρ = g d ρ fun ρ1 => t { nx := fun ρ2 => dWalk g t K ds ρ2, rt := K.rt, bk := K.nx, ct := fun ρ2 => dWalk g t K ds ρ2 } ρ1 := by unfold dWalk; rfl
def dFor (ai : AI) (g : AG) (t : ASt) : ASt := fun K ρ => ai ρ fun ds ρ1 => dWalk g t K ds ρ1
/-- what holds between the turns -/
inductive FoI (Z : Zx) (B : Addr → Option HO) (F1 : Wo) (c : DSt → Prop) (σ : St) (H : Hp) : Prop
  | mk (F2 : Wo) (ρ2 : DSt) (w2 : Wd (Z.b B) F2 H) (x2 : Ext F1 F2) (r2 : RSt (Z.b B) F2 ρ2 σ H) (q : c ρ2) : FoI Z B F1 c σ H
theorem ds_for {body : List Stmt} {ai : AI} {js : List Nat} {g : AG} {t : ASt} (hc : X.calm = true) (hi : DI Z X tg e ai) (hg : DG Z X js tg g) (hb : DSs Z X body t)
    (hp : PassesOwn (model X.prog X.w) X.A X.env X.xe := by exact PassesOwn.never) (hs : ∀ x, foldedSetIterable e X.env x = pure x := by intro _; rfl) : DS Z X (.For tg e body [] pos) (dFor ai g t) := by
  refine ⟨ps_imp (ps_for hp hc hi.pi hg.pg hb.ps hs) fun D σ H h => ?_⟩
  obtain ⟨B, F, ρ, K, w, r, q, k⟩ := h
  refine ⟨B, F, ρ, _, w, r, q, fun F1 H1 ρ1 ds J w1 x1 r1 io q1 => ?_⟩
  refine ⟨fun i m σ H => i + m = ds.length ∧ FoI Z B F1 (dWalk g t K (ds.drop i)) σ H, ⟨ds.length, by omega, F1, ρ1, w1, Ext.refl F1, r1, q1⟩, ?_⟩
  rintro i m σ2 H2 ⟨hm, F2, ρ2, w2, x2, r2, q2⟩
  by_cases hi : i < ds.length
  · refine .inr ⟨io.go (Z.b B) F2 H2 i w2 x2 hi, FoI Z B F1 (dWalk g t K (ds.drop (i + 1))), fun σ' H' z => ⟨m - 1, by omega, by omega, z⟩, fun x H' y => ?_⟩
    obtain ⟨F3, d, s3, hd, hr⟩ := io.yld (Z.b B) F2 H2 i x H' w2 x2 hi y
    have hde : ds.drop i = d :: ds.drop (i + 1) := by
      rw [List.drop_eq_getElem_cons hi]
      rw [List.getElem?_eq_getElem hi] at hd
      cases hd
      rfl
    rw [hde, dWalk_cons] at q2
    have x13 := x2.trans s3.ext
    refine ⟨B, F3, ρ2, d, _, s3.wd, s3.st _ _ r2, hr, q2, fun F4 H4 σ4 ρ4 w4 x4 r4 q4 _ => ?_⟩
    have k4 := k.mono (x1.trans (x13.trans x4))
    exact ⟨B, F4, ρ4, _, w4, r4, q4, ⟨fun F5 H5 σ5 ρ5 w5 x5 r5 q5 => ⟨F5, ρ5, w5, x13.trans (x4.trans x5), r5, q5⟩, k4.nx, fun F5 H5 σ5 ρ5 w5 x5 r5 q5 => ⟨F5, ρ5, w5, x13.trans (x4.trans x5), r5, q5⟩, k4.rt, fun _ _ _ _ _ _ _ _ z => z.elim⟩⟩
  · have e0 : i = ds.length := by omega
    subst e0
    rw [List.drop_length, dWalk_nil] at q2
    exact .inl ⟨io.stop (Z.b B) F2 H2 w2 x2, k.nx F2 H2 σ2 ρ2 w2 (x1.trans x2) r2 q2⟩
theorem dWalk_ind {g : AG} {t : ASt} {K : DEnds} (I : List DV → DSt → Prop) {ds : List DV} {ρ : DSt} (h0 : I ds ρ) (hn : ∀ ρ, I [] ρ → K.nx ρ)
    (hc : ∀ (d : DV) (r : List DV) (ρ : DSt) (W : DSt → Prop), (∀ ρ', I r ρ' → W ρ') → I (d :: r) ρ → g d ρ fun ρ1 => t { nx := W, rt := K.rt, bk := K.nx, ct := W } ρ1) : dWalk g t K ds ρ := by
  induction ds generalizing ρ with
  | nil => rw [dWalk_nil]; exact hn ρ h0
  | cons d r ih => rw [dWalk_cons]; exact hc d r ρ _ (fun ρ' h => ih h) h0
def wipeD (ρ : DSt) : List Nat → DSt
  | [] => ρ
  | v :: vs => (wipeD ρ vs).set v none
def keepV : Option (Option Lv) → Option Lv
  | some (some (.val d)) => some (.val d)
  | _ => none
def merge (ρ1 ρ2 : DSt) : List Nat → DSt
  | [] => ρ2
  | v :: vs => (merge ρ1 ρ2 vs).set v (keepV ρ1[v]?)
theorem wipe_out {σ : St} {i : Nat} : ∀ {vs : List Nat}, i ∉ vs → (wipe σ vs)[i]? = σ[i]?
  | [], _ => rfl
  | v :: vs, h => by
    rw [List.mem_cons, not_or] at h
    show ((wipe σ vs).set v none)[i]? = _
    rw [List.getElem?_set_ne (Ne.symm h.1), wipe_out h.2]
theorem wipe_in {σ : St} {i : Nat} : ∀ {vs : List Nat}, i ∈ vs → i < σ.length → (wipe σ vs)[i]? = some none
  | [], h, _ => by cases h
  | v :: vs, h, hl => by
    show ((wipe σ vs).set v none)[i]? = _
    by_cases c : v = i
    · subst c; rw [List.getElem?_set_self (by rw [wipe_length]; exact hl)]
    · rw [List.getElem?_set_ne c]
      rcases List.mem_cons.mp h with e | e
      · exact absurd e.symm c
      · exact wipe_in e hl
theorem wipe_ext {σ σ' : St} {js vs : List Nat} (h : Butt js (wipe σ vs) σ') (hj : ∀ j ∈ js, j ∈ vs) : wipe σ' vs = wipe σ vs := by
  have hl : σ'.length = σ.length := by rw [h.1, wipe_length]
  refine List.ext_getElem? fun i => ?_
  by_cases c : i ∈ vs
  · by_cases hi : i < σ.length
    · rw [wipe_in c hi, wipe_in c (by omega)]
    · rw [List.getElem?_eq_none (by rw [wipe_length]; omega), List.getElem?_eq_none (by rw [wipe_length]; omega)]
  · rw [wipe_out c, h.2 i (fun z => c (hj i z))]
theorem wipeD_len (ρ : DSt) : ∀ vs : List Nat, (wipeD ρ vs).length = ρ.length
  | [] => rfl
  | v :: vs => by show ((wipeD ρ vs).set v none).length = _; rw [List.length_set, wipeD_len ρ vs]
theorem wipeD_some {ρ : DSt} {i : Nat} {x : Lv} : ∀ {vs : List Nat}, (wipeD ρ vs)[i]? = some (some x) → ρ[i]? = some (some x) ∧ i ∉ vs
  | [], h => ⟨h, by simp⟩
  | v :: vs, h => by
    have h : ((wipeD ρ vs).set v none)[i]? = some (some x) := h
    by_cases c : v = i
    · subst c
      by_cases hv : v < (wipeD ρ vs).length
      · rw [List.getElem?_set_self hv] at h; cases h
      · rw [List.getElem?_eq_none (by rw [List.length_set]; omega)] at h; cases h
    · rw [List.getElem?_set_ne c] at h
      obtain ⟨h1, h2⟩ := wipeD_some h
      exact ⟨h1, by rw [List.mem_cons, not_or]; exact ⟨fun e => c e.symm, h2⟩⟩
theorem RSt.wipe {B : Bs} {F : Wo} {ρ : DSt} {σ : St} {H : Hp} (r : RSt B F ρ σ H) (vs : List Nat) : RSt B F (wipeD ρ vs) (L2.wipe σ vs) H := by
  refine ⟨fun i d e => ?_, fun i d e => ?_, fun i j d e p hij h1 h2 h3 => ?_, by rw [wipeD_len, wipe_length]; exact r.len⟩
  · obtain ⟨h, n⟩ := wipeD_some e
    rw [wipe_out n]; exact r.val i d h
  · obtain ⟨h, n⟩ := wipeD_some e
    rw [wipe_out n]; exact r.own i d h
  · obtain ⟨k1, n1⟩ := wipeD_some h1
    obtain ⟨k2, n2⟩ := wipeD_some h2
    rw [wipe_out n1] at h3
    rw [wipe_out n2]
    exact r.dis i j d e p hij k1 k2 h3
theorem merge_len (ρ1 ρ2 : DSt) : ∀ vs : List Nat, (merge ρ1 ρ2 vs).length = ρ2.length
  | [] => rfl
  | v :: vs => by show ((merge ρ1 ρ2 vs).set v _).length = _; rw [List.length_set, merge_len ρ1 ρ2 vs]
theorem merge_some {ρ1 ρ2 : DSt} {i : Nat} {x : Lv} : ∀ {vs : List Nat}, (merge ρ1 ρ2 vs)[i]? = some (some x) → (i ∉ vs ∧ ρ2[i]? = some (some x)) ∨ ∃ d, x = .val d ∧ ρ1[i]? = some (some (Lv.val d))
  | [], h => .inl ⟨by simp, h⟩
  | v :: vs, h => by
    have h : ((merge ρ1 ρ2 vs).set v (keepV ρ1[v]?))[i]? = some (some x) := h
    by_cases c : v = i
    · subst c
      by_cases hv : v < (merge ρ1 ρ2 vs).length
      · rw [List.getElem?_set_self hv] at h
        refine .inr ?_
        cases e : ρ1[v]? with
        | none => rw [e] at h; cases h
        | some o =>
          cases o with
          | none => rw [e] at h; cases h
          | some l =>
            cases l with
            | val d => rw [e] at h; cases h; exact ⟨d, rfl, rfl⟩
            | own d => rw [e] at h; cases h
      · rw [List.getElem?_eq_none (by rw [List.length_set]; omega)] at h; cases h
    · rw [List.getElem?_set_ne c] at h
      rcases merge_some h with ⟨n, h⟩ | h
      · exact .inl ⟨by rw [List.mem_cons, not_or]; exact ⟨fun e => c e.symm, n⟩, h⟩
      · exact .inr h
theorem RSt.merge {B B' : Bs} {F F' : Wo} {ρ ρ' : DSt} {σ : St} {H H' : Hp} {vs : List Nat} (r : RSt B F ρ σ H) (x : Ext F F') (r' : RSt B' F' ρ' (L2.wipe σ vs) H') : RSt B' F' (DL.merge ρ ρ' vs) σ H' := by
  have hl : ρ'.length = σ.length := by rw [r'.len, wipe_length]
  refine ⟨fun i d e => ?_, fun i d e => ?_, fun i j d e p hij h1 h2 h3 => ?_, by rw [merge_len]; exact hl⟩
  · rcases merge_some e with ⟨n, h⟩ | ⟨d', h, h'⟩
    · obtain ⟨v, hv, hr⟩ := r'.val i d h
      exact ⟨v, by rw [← wipe_out n]; exact hv, hr⟩
    · cases h
      obtain ⟨v, hv, hr⟩ := r.val i d h'
      exact ⟨v, hv, hr.mono x⟩
  · rcases merge_some e with ⟨n, h⟩ | ⟨d', h, h'⟩
    · obtain ⟨v, hv, hr⟩ := r'.own i d h
      exact ⟨v, by rw [← wipe_out n]; exact hv, hr⟩
    · cases h
  · rcases merge_some h1 with ⟨n1, k1⟩ | ⟨d', h, h'⟩
    · rcases merge_some h2 with ⟨n2, k2⟩ | ⟨d', h, h'⟩
      · rw [← wipe_out n1] at h3
        rw [← wipe_out n2]
        exact r'.dis i j d e p hij k1 k2 h3
      · cases h
    · cases h
/-- a comprehension's turns -/
def dLcW0 (g : AG) (tt : AT) (te : AE) (vs : List Nat) (fin : List DV → DSt → Prop) : List DV → List DV → DSt → Prop
  | [], acc, ρ => fin acc ρ
  | d :: ds, acc, ρ => g d ρ fun ρ2 => tt ρ2 fun b ρ3 => if b = true then te ρ3 fun y ρ4 => dLcW0 g tt te vs fin ds (acc ++ [y]) (wipeD ρ4 vs) else dLcW0 g tt te vs fin ds acc (wipeD ρ3 vs)
@[irreducible] def dLcW (g : AG) (tt : AT) (te : AE) (vs : List Nat) (fin : List DV → DSt → Prop) (ds acc : List DV) (ρ : DSt) : Prop := dLcW0 g tt te vs fin ds acc ρ
theorem dLcW_nil {g : AG} {tt : AT} {te : AE} {vs : List Nat} {fin : List DV → DSt → Prop} {acc : List DV} {ρ : DSt} : dLcW g tt te vs fin [] acc ρ = fin acc ρ := by unfold dLcW; rfl
theorem dLcW_cons {g : AG} {tt : AT} {te : AE} {vs : List Nat} {fin : List DV → DSt → Prop} {acc ds : List DV} {d : DV} {ρ : DSt} : dLcW g tt te vs fin (d :: ds) acc ρ =
    g d ρ fun ρ2 => tt ρ2 fun b ρ3 => if b = true then te ρ3 fun y ρ4 => dLcW g tt te vs fin ds (acc ++ [y]) (wipeD ρ4 vs) else dLcW g tt te vs fin ds acc (wipeD ρ3 vs) := by unfold dLcW; rfl
/-- a comprehension that keeps all and leaves the slots -/
theorem dLcW_map {g : AG} {te : AE} {vs : List Nat} {fin : List DV → DSt → Prop} {ρ : DSt} (f : DV → DV) {ds : List DV} (hr : wipeD ρ vs = ρ)
    (hs : ∀ d ∈ ds, ∀ Q : DV → DSt → Prop, (∀ ρ', wipeD ρ' vs = ρ → Q (f d) ρ') → g d ρ fun ρ2 => te ρ2 Q) (hf : fin (ds.map f) ρ) : dLcW g (fun ρ Q => Q true ρ) te vs fin ds [] ρ := by
  have key : ∀ (es acc : List DV), (∀ d ∈ es, d ∈ ds) → fin (acc ++ es.map f) ρ → dLcW g (fun ρ Q => Q true ρ) te vs fin es acc ρ := by
    intro es
    induction es with
    | nil => intro acc _ h; rw [dLcW_nil]; simpa using h
    | cons d r ih =>
      intro acc hm h
      rw [dLcW_cons]
      refine hs d (hm d (by simp)) (fun y ρ4 => dLcW g (fun ρ Q => Q true ρ) te vs fin r (acc ++ [y]) (wipeD ρ4 vs)) fun ρ' e => ?_
      show dLcW g (fun ρ Q => Q true ρ) te vs fin r (acc ++ [f d]) (wipeD ρ' vs)
      rw [e]
      exact ih _ (fun x hx => hm x (by simp [hx])) (by simpa using h)
  exact key ds [] (fun _ h => h) (by simpa using hf)
def dLc (ai : AI) (g : AG) (tt : AT) (te : AE) (vs : List Nat) : AE := fun ρ Q => ai ρ fun ds ρ1 => ds.length ≤ sizeLine ∧ dLcW g tt te vs (fun acc ρ2 => Q (.lst acc) (merge ρ1 ρ2 vs)) ds [] (wipeD ρ1 vs)
/-- what holds between the turns of a comprehension -/
inductive LcI (Z : Zx) (B : Addr → Option HO) (D : Addr) (F1 : Wo) (σ : St) (vs : List Nat) (n : Nat) (c : List DV → DSt → Prop) (H2 : Hp) : Prop
  | mk (F2 : Wo) (ρ2 : DSt) (acc : List DV) (av : List V) (w2 : Wd ((Z.b B).loose D (.lst av)) F2 H2) (x2 : Ext F1 F2) (r2 : RSt ((Z.b B).loose D (.lst av)) F2 ρ2 (wipe σ vs) H2) (ha : Reps F2 acc av) (hal : acc.length ≤ n) (q : c acc ρ2) : LcI Z B D F1 σ vs n c H2
theorem lift_lc {ai : AI} {js vs : List Nat} {g : AG} {tt : AT} {te : AE} {σ : St} {H : Hp} {Q : VK} (hj : ∀ j ∈ js, j ∈ vs) (h : tD Z (dLc ai g tt te vs) σ H Q) : tLc (tDI Z ai) (tDG Z js g) (tDT Z tt) (tD Z te) vs σ H Q := by
  obtain ⟨B, F, ρ, Q', w, r, q, k⟩ := h
  refine ⟨B, F, ρ, _, w, r, q, fun F1 H1 ρ1 ds J w1 x1 r1 io q1 D hD => ?_⟩
  obtain ⟨hz, q1⟩ := q1
  obtain ⟨wl, rl⟩ := w1.loosen (o := .lst []) hD
  refine ⟨fun i m H2 => i + m = ds.length ∧ LcI Z B D F1 σ vs i (dLcW g tt te vs (fun acc ρ2 => Q' (.lst acc) (merge ρ1 ρ2 vs)) (ds.drop i)) H2,
    ⟨ds.length, by omega, F1, wipeD ρ1 vs, [], [], wl, Ext.refl F1, (rl _ _ r1).wipe vs, Reps.nil, Nat.le_refl 0, q1⟩, ?_⟩
  rintro i m H2 ⟨hm, F2, ρ2, acc, av, w2, x2, r2, ha, hal, q2⟩
  by_cases hi : i < ds.length
  · refine .inr ⟨io.go _ F2 H2 i w2 x2 hi, LcI Z B D F1 σ vs (i + 1) (dLcW g tt te vs (fun acc ρ2 => Q' (.lst acc) (merge ρ1 ρ2 vs)) (ds.drop (i + 1))), fun H' z => ⟨m - 1, by omega, by omega, z⟩, fun x H' y => ?_⟩
    obtain ⟨F3, d, s3, hd, hr⟩ := io.yld _ F2 H2 i x H' w2 x2 hi y
    have hde : ds.drop i = d :: ds.drop (i + 1) := by
      rw [List.drop_eq_getElem_cons hi]
      rw [List.getElem?_eq_getElem hi] at hd
      cases hd
      rfl
    rw [hde, dLcW_cons] at q2
    have x13 := x2.trans s3.ext
    refine ⟨_, F3, ρ2, d, _, s3.wd, s3.st _ _ r2, hr, q2, fun F4 H4 σ4 ρ4 w4 x4 r4 q4 b4 => ⟨wipe_ext b4 hj, ?_⟩⟩
    have ew := wipe_ext b4 hj
    refine ⟨_, F4, ρ4, _, w4, r4, q4, fun F5 H5 ρ5 b w5 x5 r5 q5 => ?_⟩
    cases b with
    | true =>
      rw [if_pos rfl] at q5 ⊢
      refine ⟨_, F5, ρ5, _, w5, r5, q5, fun F6 H6 ρ6 y vy w6 x6 r6 hy q6 => ?_⟩
      obtain ⟨w7, r7⟩ := Wd.reloose (B := Z.b B) (p := D) (o := .lst av) (u := .lst (av ++ [vy])) w6
      refine ⟨av, (w6.lo D _ (if_pos rfl)).1, by rw [← ha.length]; omega, F6, _, acc ++ [y], av ++ [vy], w7, x13.trans (x4.trans (x5.trans x6)), ?_, (ha.mono (s3.ext.trans (x4.trans (x5.trans x6)))).append (Reps.cons hy Reps.nil), by simp; omega, q6⟩
      have := (r7 _ _ r6).wipe vs
      rw [ew] at this
      exact this
    | false =>
      rw [if_neg Bool.false_ne_true] at q5 ⊢
      have := r5.wipe vs
      rw [ew] at this
      exact ⟨F5, _, acc, av, w5, x13.trans (x4.trans x5), this, ha.mono (s3.ext.trans (x4.trans x5)), by omega, q5⟩
  · have e0 : i = ds.length := by omega
    subst e0
    rw [List.drop_length, dLcW_nil] at q2
    obtain ⟨w7, x7, r7⟩ := Wd.fix (B := Z.b B) (p := D) (o := .lst av) w2 (w1.nl hD)
    exact .inl ⟨io.stop _ F2 H2 w2 x2, k _ _ _ _ _ w7 (x1.trans (x2.trans x7)) (r1.merge (x2.trans x7) (r7 _ _ r2)) (rep_lst.mpr ⟨D, av, rfl, Wo.add_same, ha.mono x7⟩) q2⟩
abbrev dYes : AT := fun ρ Q => Q true ρ
structure DTs (Z : Zx) (X : Cx) (ifs : List Expr) (a : AT) : Prop where
  pt : PTs X ifs (tDT Z a)
theorem dts_nil : DTs Z X [] dYes := ⟨⟨fun pins s σ H Q I ⟨B, F, ρ, Q', w, r, a, k⟩ => pts_nil.run pins s σ H Q I (k F H ρ _ w (Ext.refl F) r a)⟩⟩
theorem dts_one {c : AT} (h : DT Z X e c) : DTs Z X [e] c := ⟨pts_one h.pt⟩
theorem de_lc {elt iter : Expr} {ifs : List Expr} {scope : Scope} {own : List (Str × Nat)} {ai : AI} {js : List Nat} {g : AG} {tt : AT} {te : AE} (hc : X.calm = true) (hN : X.N.Nodup) (hi : DI Z X tg iter ai) (ok : BlkOk X.N X.env.scope scope own)
    (hg : ∀ (s : Shared) (H : Hp) (C : Addr) (cl : List (Str × Addr)) (fp : List Addr), DG Z (X.blk s H scope (compEnvC scope cl C X.env) fp) js tg g) (ht : ∀ (s : Shared) (H : Hp) (C : Addr) (cl : List (Str × Addr)) (fp : List Addr), DTs Z (X.blk s H scope (compEnvC scope cl C X.env) fp) ifs tt)
    (he : ∀ (s : Shared) (H : Hp) (C : Addr) (cl : List (Str × Addr)) (fp : List Addr), DE Z (X.blk s H scope (compEnvC scope cl C X.env) fp) elt te) (hj : ∀ j ∈ js, j ∈ own.map (·.2) := by decide) (hs : ∀ x, foldedSetIterable iter X.env x = pure x := by intro _; rfl) :
    DE Z X (.ListComp elt [⟨tg, iter, ifs, 0⟩] scope pos) (dLc ai g tt te (own.map (·.2))) :=
  ⟨pe_imp (pe_lc hc hN hi.pi ok (fun s H C cl fp => (hg s H C cl fp).pg) (fun s H C cl fp => (ht s H C cl fp).pt) (fun s H C cl fp => (he s H C cl fp).pe) hs) fun _ _ _ h => lift_lc hj h⟩
theorem ds_setLc {i : Nat} {y : Str} {py spos : Pos} {elt iter : Expr} {ifs : List Expr} {scope : Scope} {own : List (Str × Nat)} {ai : AI} {js : List Nat} {g : AG} {tt : AT} {te : AE} (hc : X.calm = true) (hN : X.N.Nodup) (hy : X.N[i]? = some y) (hyl : X.env.scope.names.lookup y = some .local)
    (hsw : swapsWith (.ListComp elt [⟨tg, iter, ifs, 0⟩] scope pos) (some (.Name y py)) spos.line X.env = pure true) (hi : DI Z X tg iter ai) (ok : BlkOk X.N X.env.scope scope own)
    (hg : ∀ (s : Shared) (H : Hp) (C : Addr) (cl : List (Str × Addr)) (fp : List Addr), DG Z (X.blk s H scope (compEnvC scope cl C X.env) fp) js tg g) (ht : ∀ (s : Shared) (H : Hp) (C : Addr) (cl : List (Str × Addr)) (fp : List Addr), DTs Z (X.blk s H scope (compEnvC scope cl C X.env) fp) ifs tt)
    (he : ∀ (s : Shared) (H : Hp) (C : Addr) (cl : List (Str × Addr)) (fp : List Addr), DE Z (X.blk s H scope (compEnvC scope cl C X.env) fp) elt te) (hj : ∀ j ∈ js, j ∈ own.map (·.2) := by decide) (hs : ∀ x, foldedSetIterable iter X.env x = pure x := by intro _; rfl) :
    DS Z X (.Assign [.Name y py] (.ListComp elt [⟨tg, iter, ifs, 0⟩] scope pos) spos) (dAsg (dLc ai g tt te (own.map (·.2))) (gN i)) := by
  refine ⟨ps_imp (ps_setLc hc hN hy hyl hsw hi.pi ok (fun s H C cl fp => (hg s H C cl fp).pg) (fun s H C cl fp => (ht s H C cl fp).pt) (fun s H C cl fp => (he s H C cl fp).pe) hs) fun D σ H h => ?_⟩
  obtain ⟨B, F, ρ, K, w, r, q, k⟩ := h
  exact lift_lc hj ⟨B, F, ρ, _, w, r, q, fun F' H' ρ' d v w' x' r' hr q' => k.nx F' H' _ _ w' x' (r'.put' i hr) q'⟩
end

abbrev ED := Addr → List Str → List DV → Prop
abbrev noE : ED := fun _ _ _ => False
abbrev DSp := List DV → (DV → Prop) → ED → Prop
abbrev b0 (F : Wo) (H : Hp) : Bs := ⟨F, H, fun _ => none⟩
def XOk (F : Wo) (H : Hp) (E' : ED) (E : XK) : Prop := ∀ F' H' C dd fs ds, Wd (b0 F H) F' H' → F'.fz dd = some (.xd fs) → Reps F' ds (fs.map (·.2)) → E' C (fs.map (·.1)) ds → E (.ref C) (some dd) H'
/-- a promise about data as one about the heap -/
inductive SPi (sp : DSp) (vs : List V) (H : Hp) (Q : VK) (E : XK) : Prop
  | mk (F : Wo) (ds : List DV) (Q' : DV → Prop) (E' : ED) (w : Wd (b0 F H) F H) (h : Reps F ds vs) (q : sp ds Q' E') (k : ∀ F' H' d v, Wd (b0 F H) F' H' → Rep F' d v → Q' d → Q v H') (x : XOk F H E' E) : SPi sp vs H Q E
def spD (sp : DSp) : Sp := fun vs H Q E => SPi sp vs H Q E
def startD (n : Nat) (ds : List DV) : DSt := ds.map (fun d => some (Lv.val d)) ++ List.replicate (n - ds.length) none
theorem start_rst {F : Wo} {H : Hp} {N : List Str} {ds : List DV} {vs : List V} (h : Reps F ds vs) : RSt (b0 F H) F (startD N.length ds) (L2.start N vs) H := by
  have hl := h.length
  have key : ∀ {i : Nat} {l : Lv}, (startD N.length ds)[i]? = some (some l) → ∃ d, l = .val d ∧ ds[i]? = some d := fun {i l} e => by
    unfold startD at e
    by_cases hi : i < ds.length
    · rw [List.getElem?_append_left (by simpa using hi), List.getElem?_map] at e
      cases z : ds[i]? with
      | none => rw [z] at e; cases e
      | some d => rw [z] at e; cases e; exact ⟨d, rfl, rfl⟩
    · rw [List.getElem?_append_right (by simpa using hi), List.getElem?_replicate] at e
      split at e <;> cases e
  refine ⟨fun i d e => ?_, fun i d e => ?_, fun i j d e p _ h1 => ?_, ?_⟩
  · obtain ⟨d', e1, e2⟩ := key e
    cases e1
    obtain ⟨v, hv, hr⟩ := h.get e2
    refine ⟨v, ?_, hr⟩
    unfold L2.start
    rw [List.getElem?_append_left (by simpa using (List.getElem?_eq_some_iff.mp hv).1), List.getElem?_map, hv]
    rfl
  · obtain ⟨d', e1, e2⟩ := key e
    cases e1
  · obtain ⟨d', e1, e2⟩ := key h1
    cases e1
  · unfold startD L2.start
    simp only [List.length_append, List.length_map, List.length_replicate]
    omega
section
variable {P : Program} {w : World} {K : PySem.W.Frag} {mg : Str → Option Value} {base : Heap}
/-- a def that nothing leaves: its body, and the reading of it -/
theorem dfn_ok {x qual : Str} {st : Stmt} {f : Addr} {fd : FuncData} {N ps : List Str} {k : Nat} {sp : DSp} (Fn : Fun K x qual st f fd) (S : FnScope N ps (defScope st)) (len : ∀ ds Q E, sp ds Q E → ds.length = ps.length) {a : ASt}
    (hbody : ∀ (Z : Zx) (cdv : Value) (A : Around) (outer : List Env) (s : Shared) (H : Hp) (E : XK), Room k (A.deeper (PyProof.Rows.envOfC qual (defScope st) s.heap.objs.size f cdv)) →
      DSs Z (cxOf CX0 P w K mg base N qual (defScope st) f cdv A outer s H E).nox (defBody st) a)
    (hsp : ∀ ds Q E, sp ds Q E → a { nx := fun _ => Q .non, rt := fun d _ => Q d } (startD N.length ds)) : FnOk P w K mg base CX0 (k + 1) f fd ps (spD sp) := by
  refine Fn.ok S (fun vs H Q E ⟨F, ds, Q', E', _, hr, hs, _, _⟩ => by rw [← hr.length]; exact len _ _ _ hs) fun cdv A outer s H vs Q E hroom h => ?_
  obtain ⟨F, ds, Q', E', w0, hr, hs, hq, hx⟩ := h
  refine ⟨_, (hbody (Zx.z0 F H) cdv A outer s H E hroom).ps, fun _ => none, F, startD N.length ds, _, w0, start_rst hr, hsp ds Q' E' hs, ⟨?_, ?_, ?_, ?_, fun _ _ _ _ _ _ _ _ z => z.elim⟩⟩
  · exact fun F' H' σ' ρ' w' _ _ q' => hq F' H' .non .non w' (rep_non.mpr rfl) q'
  · exact fun _ _ _ _ _ _ _ q' => False.elim q'
  · exact fun _ _ _ _ _ _ _ q' => False.elim q'
  · exact fun F' H' _ _ d v w' _ _ hd q' => hq F' H' d v w' hd q'
end
section
variable {Z : Zx} {X : Cx} {x : Str} {p pos : Pos} {e : Expr} {es : List Expr} {t : AA} {k : Nat} {f : Addr} {fd : FuncData} {ps : List Str} {ds : List Value} {dvs : List V} {sp : DSp}
def dCall (sp : DSp) (E : ED) (dd : List DV) (t : AA) : AE := fun ρ Q => t ρ fun ds ρ1 => sp (ds ++ dd) (fun d => Q d ρ1) E
theorem Wd.again {B : Bs} {F : Wo} {H : Hp} (w : Wd B F H) : Wd (b0 F H) F H := Wd.start F H w.fz w.ce w.dj w.lk w.nt
theorem liftCall {dd : List DV} {E' : ED} {E : XK} (hdd : ∀ F, Reps F dd dvs) (hx : ∀ F H, XOk F H E' E) {σ : St} {H : Hp} {Q : VK} (h : tD Z (dCall sp E' dd t) σ H Q) : tCall (spD sp) dvs E (tDA Z t) σ H Q := by
  obtain ⟨B, F, ρ, Q', w, r, q, k⟩ := h
  refine ⟨B, F, ρ, _, w, r, q, fun F1 H1 ρ1 ds vs w1 x1 r1 hs q1 => ?_⟩
  refine ⟨F1, ds ++ dd, _, E', w1.again, hs.append (hdd F1), q1, fun F2 H2 d v w2 hr q2 => ?_, hx F1 H1⟩
  have s := w1.call w2
  exact k F2 H2 ρ1 d v s.wd (x1.trans s.ext) (s.st _ _ r1) hr q2
theorem de_call {dd : List DV} (G : FnOk X.prog X.w X.K X.mg X.base CX0 k f fd ps (spD sp)) (hr : Room k X.A) (hg : Gl X x) (hm : X.mg x = some (.ref f)) (hk : PySem.W.keepIn X.K (.ref f) = true) (hb : Binds X.K fd ps ds) (hd : Vals dvs ds) (hdd : ∀ F, Reps F dd dvs)
    (ha : DA Z X (e :: es) t) (hdb : (x == ("__debug__" : Str)) = false := by decide) (he : starEach (e :: es) X.env = (false, eval e X.env) :: starEach es X.env := by rfl) (hpl : (backTo pos (starEach es X.env)).any (·.1) = false := by rfl) :
    DE Z X (.Call (.Name x p) (e :: es) [] pos) (dCall sp noE dd t) :=
  ⟨pe_imp (pe_call G hr hg hm hk hb hd pass0 ha.pa hdb he hpl) fun _ _ _ h => liftCall hdd (fun _ _ _ _ _ _ _ _ _ _ _ z => z) h⟩
end
end DL

namespace DL
open PySem L2

section
variable {Z : Zx} {X : Cx}
def fLen (ds : List DV) (Q : DV → Prop) : Prop := match ds with
  | [.str z] => z.length ≤ sizeLine ∧ Q (.int z.length)
  | [.lst xs] => Q (.int xs.length)
  | [.lsa _ xs] => Q (.int xs.length)
  | [.tup xs] => Q (.int xs.length)
  | [.dic ks _] => Q (.int ks.length)
  | _ => False
theorem call_lenR : CallR X (.builtin "len") (fun xs H Q => ∃ (a : Addr) (kvs : List (Key × V)), xs = [V.ref a] ∧ Rd H a (.dK kvs) ∧ Q (.int kvs.length) H) := by
  intro pins s σ H xs us Q I r h
  obtain ⟨a, kvs, rfl, ha, q⟩ := h
  obtain ⟨u, rfl, ru⟩ := vals1 r
  cases ru
  exact d_len I ha fun t s' J => ⟨.int kvs.length, H, J, ⟨t, rfl⟩, q⟩
def rLenG (K : PySem.W.Frag) : List V → Hp → VK → Prop := fun xs H Q => (∃ x n, xs = [x] ∧ LenV K x H n ∧ Q (.int n) H) ∨ ∃ (a : Addr) (kvs : List (Key × V)), xs = [V.ref a] ∧ Rd H a (.dK kvs) ∧ Q (.int kvs.length) H
theorem co_len : CallR X (.builtin "len") (rLenG X.K) := CallR.or call_len call_lenR
theorem cd_len {K : PySem.W.Frag} : ClD (rLenG K) fLen := by
  intro B F H xs ds Q Q' w hs h k
  match ds, h with
  | [.str z], h =>
    obtain ⟨v, r, rfl, hv, hr⟩ := reps_cons.mp hs
    rw [reps_nil.mp hr, rep_str.mp hv]
    exact .inl ⟨_, _, rfl, ⟨h.1, rfl⟩, k F H _ _ (Stp.refl w) (rep_int.mpr rfl) h.2⟩
  | [.lst es], h =>
    obtain ⟨v, r, rfl, hv, hr⟩ := reps_cons.mp hs
    obtain ⟨p, vs, rfl, f, q⟩ := rep_lst.mp hv
    rw [reps_nil.mp hr]
    exact .inl ⟨_, _, rfl, .inl ⟨vs, SqL.of (w.sqL (K := K) f), rfl⟩, k F H _ _ (Stp.refl w) (rep_int.mpr (by rw [q.length])) h⟩
  | [.lsa a es], h =>
    obtain ⟨v, r, rfl, hv, hr⟩ := reps_cons.mp hs
    obtain ⟨rfl, vs, f, q⟩ := rep_lsa.mp hv
    rw [reps_nil.mp hr]
    exact .inl ⟨_, _, rfl, .inl ⟨vs, SqL.of (w.sqL (K := K) f), rfl⟩, k F H _ _ (Stp.refl w) (rep_int.mpr (by rw [q.length])) h⟩
  | [.tup es], h =>
    obtain ⟨v, r, rfl, hv, hr⟩ := reps_cons.mp hs
    obtain ⟨p, vs, rfl, f, q⟩ := rep_tup.mp hv
    rw [reps_nil.mp hr]
    exact .inl ⟨_, _, rfl, .inr ⟨vs, SqT.of (w.sqT (K := K) f), rfl⟩, k F H _ _ (Stp.refl w) (rep_int.mpr (by rw [q.length])) h⟩
  | [.dic ks es], h =>
    obtain ⟨v, r, rfl, hv, hr⟩ := reps_cons.mp hs
    obtain ⟨p, kvs, rfl, f, e, q⟩ := rep_dic.mp hv
    rw [reps_nil.mp hr]
    subst e
    have h : Q' (.int ((kvs.map (·.1)).length : Nat)) := h
    exact .inr ⟨p, kvs, rfl, w.rdD f, k F H (.int ((kvs.map (·.1)).length : Nat)) _ (Stp.refl w) (rep_int.mpr (by rw [List.length_map])) h⟩

def boolsD : List DV → Option (List Bool)
  | [] => some []
  | .bl b :: ds => (boolsD ds).map (b :: ·)
  | _ :: _ => none
theorem reps_bools {F : Wo} : ∀ {ds : List DV} {vs : List V} {bs : List Bool}, Reps F ds vs → boolsD ds = some bs → vs = bs.map V.bl
  | [], _, _, h, e => by rw [reps_nil.mp h]; cases e; rfl
  | d :: ds, _, _, h, e => by
    obtain ⟨v, r, rfl, hv, hr⟩ := reps_cons.mp h
    cases d <;> simp only [boolsD, Option.map_eq_some_iff, reduceCtorEq] at e
    obtain ⟨bs, e, rfl⟩ := e
    rw [rep_bl.mp hv, reps_bools hr e]
    rfl
theorem boolsD_map {α : Type} (f : α → Bool) : ∀ l : List α, boolsD (l.map fun x => .bl (f x)) = some (l.map f)
  | [] => rfl
  | x :: l => by simp [boolsD, boolsD_map f l]
def fAll (ds : List DV) (Q : DV → Prop) : Prop := match ds with
  | [.lst xs] => ∃ bs, boolsD xs = some bs ∧ Q (.bl (bs.all id))
  | _ => False
theorem cd_all {K : PySem.W.Frag} : ClD (rAll K) fAll := by
  intro B F H xs ds Q Q' w hs h k
  match ds, h with
  | [.lst es], h =>
    obtain ⟨bs, e, h⟩ := h
    obtain ⟨v, r, rfl, hv, hr⟩ := reps_cons.mp hs
    obtain ⟨p, vs, rfl, f, q⟩ := rep_lst.mp hv
    rw [reps_nil.mp hr]
    rw [reps_bools q e] at f
    exact ⟨p, bs, rfl, SqL.of (w.sqL (K := K) f), k F H _ _ (Stp.refl w) (rep_bl.mpr rfl) h⟩
theorem de_ty {x : Str} {n : String} {pos : Pos} (hg : Gl X x) (hm : X.mg x = none) (hv : bootBuiltins x = some (.type n)) (hn : x ≠ "__name__" := by decide) (hd : (x == ("__debug__" : Str)) = false := by decide) : DE Z X (.Name x pos) (dC (.ty n)) :=
  de_const (pe_bltn (v := .ty n) hg hm hv rfl hn hd) fun _ => rep_ty.mpr rfl
def tyD : DV → Option String
  | .non => some "NoneType"
  | .bl _ => some "bool"
  | .int _ => some "int"
  | .str _ => some "str"
  | .tup _ => some "tuple"
  | .lst _ => some "list"
  | .dic _ _ => some "dict"
  | _ => none
theorem rep_tyX {B : Bs} {F : Wo} {H : Hp} {K : PySem.W.Frag} {d : DV} {v : V} {t : String} (w : Wd B F H) (h : Rep F d v) (e : tyD d = some t) : TyX K H v (.type t) := by
  cases d <;> first | obtain rfl := Option.some.inj (show some _ = some t from e) | exact nomatch e
  · rw [rep_non.mp h]; exact .base .non
  · rw [rep_bl.mp h]; exact .base (.bl _)
  · rw [rep_int.mp h]; exact .base (.int _)
  · rw [rep_str.mp h]; exact .base (.str _)
  · obtain ⟨p, vs, rfl, f, _⟩ := rep_tup.mp h; exact .base (.tup (w.sqT (K := K) f))
  · obtain ⟨p, vs, rfl, f, _⟩ := rep_lst.mp h; exact .base (.lst (w.sqL (K := K) f))
  · obtain ⟨p, vs, rfl, f, _⟩ := rep_dic.mp h
    rcases w.rdD f with q | ⟨ob, q⟩
    · exact .base (.dK q)
    · exact .fDict q
def isiD (d : DV) (n : String) : Option Bool := (tyD d).bind fun t => kitB t n
theorem isi_bool : (∀ i, isiD (.int i) "bool" = some false) ∧ (∀ i, isiD (.str i) "bool" = some false) ∧ (∀ i, isiD (.tup i) "bool" = some false) ∧ (∀ i, isiD (.lst i) "bool" = some false) ∧ (∀ i j, isiD (.dic i j) "bool" = some false) ∧ (∀ i, isiD (.bl i) "bool" = some true) ∧ isiD .non "bool" = some false := by
  refine ⟨fun _ => ?_, fun _ => ?_, fun _ => ?_, fun _ => ?_, fun _ _ => ?_, fun _ => ?_, ?_⟩
  · exact (by decide +kernel : kitB "int" "bool" = some false)
  · exact (by decide +kernel : kitB "str" "bool" = some false)
  · exact (by decide +kernel : kitB "tuple" "bool" = some false)
  · exact (by decide +kernel : kitB "list" "bool" = some false)
  · exact (by decide +kernel : kitB "dict" "bool" = some false)
  · exact (by decide +kernel : kitB "bool" "bool" = some true)
  · exact (by decide +kernel : kitB "NoneType" "bool" = some false)
theorem isi_int : (∀ i, isiD (.int i) "int" = some true) ∧ (∀ i, isiD (.str i) "int" = some false) ∧ (∀ i, isiD (.tup i) "int" = some false) ∧ (∀ i, isiD (.lst i) "int" = some false) ∧ (∀ i j, isiD (.dic i j) "int" = some false) ∧ isiD .non "int" = some false := by
  refine ⟨fun _ => ?_, fun _ => ?_, fun _ => ?_, fun _ => ?_, fun _ _ => ?_, ?_⟩
  · exact (by decide +kernel : kitB "int" "int" = some true)
  · exact (by decide +kernel : kitB "str" "int" = some false)
  · exact (by decide +kernel : kitB "tuple" "int" = some false)
  · exact (by decide +kernel : kitB "list" "int" = some false)
  · exact (by decide +kernel : kitB "dict" "int" = some false)
  · exact (by decide +kernel : kitB "NoneType" "int" = some false)
theorem isi_str : (∀ i, isiD (.int i) "str" = some false) ∧ (∀ i, isiD (.str i) "str" = some true) ∧ (∀ i, isiD (.tup i) "str" = some false) ∧ (∀ i, isiD (.lst i) "str" = some false) ∧ (∀ i j, isiD (.dic i j) "str" = some false) ∧ isiD .non "str" = some false := by
  refine ⟨fun _ => ?_, fun _ => ?_, fun _ => ?_, fun _ => ?_, fun _ _ => ?_, ?_⟩
  · exact (by decide +kernel : kitB "int" "str" = some false)
  · exact (by decide +kernel : kitB "str" "str" = some true)
  · exact (by decide +kernel : kitB "tuple" "str" = some false)
  · exact (by decide +kernel : kitB "list" "str" = some false)
  · exact (by decide +kernel : kitB "dict" "str" = some false)
  · exact (by decide +kernel : kitB "NoneType" "str" = some false)
theorem isi_dict : (∀ i, isiD (.tup i) "dict" = some false) ∧ (∀ i, isiD (.lst i) "dict" = some false) ∧ (∀ i j, isiD (.dic i j) "dict" = some true) := by
  refine ⟨fun _ => ?_, fun _ => ?_, fun _ _ => ?_⟩
  · exact (by decide +kernel : kitB "tuple" "dict" = some false)
  · exact (by decide +kernel : kitB "list" "dict" = some false)
  · exact (by decide +kernel : kitB "dict" "dict" = some true)
theorem isi_tuple : (∀ i, isiD (.tup i) "tuple" = some true) ∧ (∀ i, isiD (.lst i) "tuple" = some false) := by
  refine ⟨fun _ => ?_, fun _ => ?_⟩
  · exact (by decide +kernel : kitB "tuple" "tuple" = some true)
  · exact (by decide +kernel : kitB "list" "tuple" = some false)
theorem isi_list : (∀ i, isiD (.tup i) "list" = some false) ∧ (∀ i, isiD (.lst i) "list" = some true) := by
  refine ⟨fun _ => ?_, fun _ => ?_⟩
  · exact (by decide +kernel : kitB "tuple" "list" = some false)
  · exact (by decide +kernel : kitB "list" "list" = some true)
def fIsi (ds : List DV) (Q : DV → Prop) : Prop := match ds with
  | [x, .ty n] => ∃ b, isiD x n = some b ∧ Q (.bl b)
  | _ => False
theorem cd_isi {K : PySem.W.Frag} : ClD (rIsi K) fIsi := by
  intro B F H xs ds Q Q' w hs h k
  match ds, h with
  | [x, .ty n], h =>
    obtain ⟨b, e, h⟩ := h
    obtain ⟨v, r, rfl, hv, hr⟩ := reps_cons.mp hs
    obtain ⟨v2, r, rfl, hv2, hr⟩ := reps_cons.mp hr
    rw [reps_nil.mp hr, rep_ty.mp hv2]
    obtain ⟨t, e1, e2⟩ := Option.bind_eq_some_iff.mp e
    exact ⟨v, .ty n, .type t, .type n, b, rfl, .ty n, rep_tyX w hv e1, kit_ty e2, k F H _ _ (Stp.refl w) (rep_bl.mpr rfl) h⟩

def fList (ds : List DV) (Q : DV → Prop) : Prop := match ds with
  | [.lst xs] => Q (.lst xs)
  | [.tup xs] => Q (.lst xs)
  | [.dic ks _] => Q (.lst (ks.map keyV))
  | _ => False
def rListG (K : PySem.W.Frag) : List V → Hp → VK → Prop := fun xs H Q => (∃ p ys, xs = [.ref p] ∧ (SqL K H p ys ∨ SqT K H p ys) ∧ ∀ l, H l = none → Q (.ref l) (upd H l (.lst ys))) ∨
  ∃ (a : Addr) (kvs : List (Key × V)), xs = [.ref a] ∧ Rd H a (.dK kvs) ∧ ∀ p, H p = none → Q (.ref p) (upd H p (.lst (kvs.map fun kv => kV kv.1)))
theorem co_list (hc : X.calm = true) : CallR X (.type "list") (rListG X.K) := CallR.or call_list_of (call_listD hc)
theorem reps_keys {F : Wo} : ∀ (kvs : List (Key × V)), Reps F ((kvs.map (·.1)).map keyV) (kvs.map fun kv => kV kv.1)
  | [] => Reps.nil
  | kv :: kvs => Reps.cons (rep_keyV kv.1) (reps_keys kvs)
theorem cd_list {K : PySem.W.Frag} : ClD (rListG K) fList := by
  intro B F H xs ds Q Q' w hs h k
  match ds, h with
  | [.lst es], h =>
    obtain ⟨v, r, rfl, hv, hr⟩ := reps_cons.mp hs
    obtain ⟨p, vs, rfl, f, q⟩ := rep_lst.mp hv
    rw [reps_nil.mp hr]
    refine .inl ⟨p, vs, rfl, .inl (SqL.of (w.sqL (K := K) f)), fun l hl => ?_⟩
    obtain ⟨s, hr⟩ := Stp.lstN w hl q
    exact k _ _ _ _ s hr h
  | [.tup es], h =>
    obtain ⟨v, r, rfl, hv, hr⟩ := reps_cons.mp hs
    obtain ⟨p, vs, rfl, f, q⟩ := rep_tup.mp hv
    rw [reps_nil.mp hr]
    refine .inl ⟨p, vs, rfl, .inr (SqT.of (w.sqT (K := K) f)), fun l hl => ?_⟩
    obtain ⟨s, hr⟩ := Stp.lstN w hl q
    exact k _ _ _ _ s hr h
  | [.dic ks es], h =>
    obtain ⟨v, r, rfl, hv, hr⟩ := reps_cons.mp hs
    obtain ⟨p, kvs, rfl, f, e, q⟩ := rep_dic.mp hv
    rw [reps_nil.mp hr]
    refine .inr ⟨p, kvs, rfl, w.rdD f, fun l hl => ?_⟩
    subst e
    obtain ⟨s, hr⟩ := Stp.lstN w hl (reps_keys kvs)
    exact k _ _ _ _ s hr h
def fTuple (ds : List DV) (Q : DV → Prop) : Prop := match ds with
  | [.lst xs] => Q (.tup xs)
  | [.tup xs] => Q (.tup xs)
  | _ => False
theorem cd_tuple {K : PySem.W.Frag} : ClD (fun xs H Q => ∃ p ys, xs = [.ref p] ∧ ((SqL K H p ys ∧ ∀ l, H l = none → Q (.ref l) (upd H l (.tup ys))) ∨ (SqT K H p ys ∧ Q (.ref p) H))) fTuple := by
  intro B F H xs ds Q Q' w hs h k
  match ds, h with
  | [.lst es], h =>
    obtain ⟨v, r, rfl, hv, hr⟩ := reps_cons.mp hs
    obtain ⟨p, vs, rfl, f, q⟩ := rep_lst.mp hv
    rw [reps_nil.mp hr]
    refine ⟨p, vs, rfl, .inl ⟨SqL.of (w.sqL (K := K) f), fun l hl => ?_⟩⟩
    obtain ⟨s, hr⟩ := Stp.tupN w hl q
    exact k _ _ _ _ s hr h
  | [.tup es], h =>
    obtain ⟨v, r, rfl, hv, hr⟩ := reps_cons.mp hs
    have hv' := hv
    obtain ⟨p, vs, rfl, f, q⟩ := rep_tup.mp hv
    rw [reps_nil.mp hr]
    exact ⟨p, vs, rfl, .inr ⟨SqT.of (w.sqT (K := K) f), k F H _ _ (Stp.refl w) hv' h⟩⟩
def fStrI (ds : List DV) (Q : DV → Prop) : Prop := match ds with
  | [.int i] => i.natAbs.log2 < 1920 ∧ Q (.str (toString i))
  | _ => False
theorem cd_stri : ClD (fun xs H Q => ∃ i : Int, xs = [.int i] ∧ i.natAbs.log2 < 1920 ∧ Q (.str (toString i)) H) fStrI := by
  intro B F H xs ds Q Q' w hs h k
  match ds, h with
  | [.int i], h =>
    obtain ⟨v, r, rfl, hv, hr⟩ := reps_cons.mp hs
    rw [reps_nil.mp hr, rep_int.mp hv]
    exact ⟨i, rfl, h.1, k F H _ _ (Stp.refl w) (rep_str.mpr rfl) h.2⟩
theorem reps_strs {F : Wo} : ∀ {ss : List Str} {vs : List V}, Reps F (ss.map DV.str) vs → vs = ss.map V.str
  | [], _, h => reps_nil.mp h
  | s :: ss, _, h => by
    obtain ⟨v, r, rfl, hv, hr⟩ := reps_cons.mp h
    rw [rep_str.mp hv, reps_strs hr]; rfl
theorem strs_reps {F : Wo} : ∀ (ss : List Str), Reps F (ss.map DV.str) (ss.map V.str)
  | [] => Reps.nil
  | s :: ss => Reps.cons (rep_str.mpr rfl) (strs_reps ss)
theorem reps_ints {F : Wo} : ∀ {ss : List Int} {vs : List V}, Reps F (ss.map DV.int) vs → vs = ss.map V.int
  | [], _, h => reps_nil.mp h
  | s :: ss, _, h => by
    obtain ⟨v, r, rfl, hv, hr⟩ := reps_cons.mp h
    rw [rep_int.mp hv, reps_ints hr]; rfl
theorem ints_reps {F : Wo} : ∀ (ss : List Int), Reps F (ss.map DV.int) (ss.map V.int)
  | [] => Reps.nil
  | s :: ss => Reps.cons (rep_int.mpr rfl) (ints_reps ss)
/-- sorted: texts, ints -/
def fSorted (ds : List DV) (Q : DV → Prop) : Prop := ∃ xs, ds = [.lst xs] ∧
  ((∃ ss : List Str, xs = ss.map DV.str ∧ ss.length < 64 ∧ ∀ ys : List Str, ys.Perm ss → PyProof.Rows.sortedS ys = true → Q (.lst (ys.map DV.str))) ∨
   ∃ ns : List Int, xs = ns.map DV.int ∧ ∀ ms : List Int, ms.Perm ns → ms.Pairwise (· ≤ ·) → Q (.lst (ms.map DV.int)))
theorem cd_sorted {K : PySem.W.Frag} : ClD (fun vs H Q => rSortedS K vs H Q ∨ rSortedI K vs H Q) fSorted := by
  intro B F H xs ds Q Q' w hs h k
  obtain ⟨es, rfl, h⟩ := h
  obtain ⟨v, r, rfl, hv, hr⟩ := reps_cons.mp hs
  obtain ⟨p, vs, rfl, f, q⟩ := rep_lst.mp hv
  rw [reps_nil.mp hr]
  rcases h with ⟨ss, rfl, hl, h⟩ | ⟨ns, rfl, h⟩
  · rw [reps_strs q] at f
    refine .inl ⟨p, ss, rfl, SqL.of (w.sqL (K := K) f), hl, fun ys l h1 h2 hl => ?_⟩
    obtain ⟨s, hr⟩ := Stp.lstN w hl (strs_reps ys)
    exact k _ _ _ _ s hr (h ys h1 h2)
  · rw [reps_ints q] at f
    refine .inr ⟨p, ns, rfl, SqL.of (w.sqL (K := K) f), fun ys l h1 h2 hl => ?_⟩
    obtain ⟨s, hr⟩ := Stp.lstN w hl (ints_reps ys)
    exact k _ _ _ _ s hr (h ys h1 h2)
theorem co_sorted : CallR X (.builtin "sorted") (fun vs H Q => rSortedS X.K vs H Q ∨ rSortedI X.K vs H Q) := CallR.or cr_sortedS cr_sortedI

def MtD (r : V → List V → Hp → VK → Prop) (f : DV → List DV → (DV → Prop) → Prop) : Prop := ∀ (B : Bs) (F : Wo) (H : Hp) (x : V) (xs : List V) (dx : DV) (ds : List DV) (Q : VK) (Q' : DV → Prop), Wd B F H → Rep F dx x → Reps F ds xs → f dx ds Q' →
  (∀ F' H' d v, Stp B F H F' H' → Rep F' d v → Q' d → Q v H') → r x xs H Q
def dMs (f : DV → List DV → (DV → Prop) → Prop) (a : AE) (t : AA) : AE := fun ρ Q => a ρ fun x ρ1 => (∃ z, x = .str z) ∧ t ρ1 fun ds ρ2 => f x ds fun z => Q z ρ2
variable {o e : Expr} {es : List Expr} {a : AE} {t : AA} {name : Str} {apos cpos : Pos} {id : String} {r : V → List V → Hp → VK → Prop} {f : DV → List DV → (DV → Prop) → Prop}
theorem de_ms (slot : PySem.Slot "str" name id) (hty : typeOf (.builtin id) = pure (.type "method_descriptor")) (hm : MtR X id r) (hf : MtD r f) (ho : DE Z X o a) (ha : DA Z X (e :: es) t)
    (hbase : attributeBase o name X.env (eval o X.env) = eval o X.env := by rfl)
    (hfew : ((backTo cpos (starEach (e :: es) X.env)).all (fun x => !x.1) && (backToKw cpos (keywordEach [] X.env)).all (fun x => x.1.isSome)
      && decide ((e :: es).length + ([] : List Keyword).length + (if ([] : List Keyword).isEmpty then 0 else 1) < 30)) = true := by rfl)
    (hline : (apos.endLine == cpos.line) = true := by rfl) (hs : starEach (e :: es) X.env = (false, eval e X.env) :: starEach es X.env := by rfl) (hplain : (backTo cpos (starEach es X.env)).any (·.1) = false := by rfl) :
    DE Z X (.Call (.Attribute o name apos) (e :: es) [] cpos) (dMs f a t) := by
  refine ⟨pe_imp (pe_bm PySem.F.plainAttrs_str slot hty hm ho.pe ha.pa hbase hfew hline hs hplain) fun σ H Q h => ?_⟩
  obtain ⟨B, F, ρ, Q', w, r0, q, k⟩ := h
  refine ⟨B, F, ρ, _, w, r0, q, fun F1 H1 ρ1 dx x w1 x1 r1 hx q1 => ?_⟩
  obtain ⟨⟨z, rfl⟩, q1⟩ := q1
  have ex := rep_str.mp hx
  subst ex
  refine ⟨rfl, B, F1, ρ1, _, w1, r1, q1, fun F2 H2 ρ2 ds vs w2 x2 r2 hs q2 => ?_⟩
  exact hf (Z.b B) F2 H2 _ vs _ ds Q _ w2 (rep_str.mpr rfl) hs q2 fun F3 H3 d v s hr q3 => k F3 H3 ρ2 d v s.wd (x1.trans (x2.trans s.ext)) (s.st _ _ r2) hr q3
/-- sep.join(texts) -/
def fJoin (x : DV) (ds : List DV) (Q : DV → Prop) : Prop := ∃ a ys, x = .str a ∧ (ds = [.lst (ys.map DV.str)] ∨ ds = [.tup (ys.map DV.str)]) ∧
  (ys.map Str.length).sum + ys.length * a.length ≤ 16777216 ∧ Q (.str (Txt.join a ys))
theorem md_join {K : PySem.W.Frag} : MtD (fun x xs H Q => ∃ a p, ∃ ys : List Str, x = .str a ∧ xs = [.ref p] ∧ (SqL K H p (ys.map V.str) ∨ SqT K H p (ys.map V.str)) ∧
    (ys.map (·.length)).sum + ys.length * a.length ≤ 16777216 ∧ Q (.str (Txt.join a ys)) H) fJoin := by
  intro B F H x xs dx ds Q Q' w hx hs h k
  obtain ⟨a, ys, rfl, hd, hz, h⟩ := h
  rw [rep_str.mp hx]
  rcases hd with rfl | rfl
  · obtain ⟨v, r, rfl, hv, hr⟩ := reps_cons.mp hs
    obtain ⟨p, vs, rfl, f, q⟩ := rep_lst.mp hv
    rw [reps_nil.mp hr]
    rw [reps_strs q] at f
    exact ⟨a, p, ys, rfl, rfl, .inl (SqL.of (w.sqL (K := K) f)), hz, k F H _ _ (Stp.refl w) (rep_str.mpr rfl) h⟩
  · obtain ⟨v, r, rfl, hv, hr⟩ := reps_cons.mp hs
    obtain ⟨p, vs, rfl, f, q⟩ := rep_tup.mp hv
    rw [reps_nil.mp hr]
    rw [reps_strs q] at f
    exact ⟨a, p, ys, rfl, rfl, .inr (SqT.of (w.sqT (K := K) f)), hz, k F H _ _ (Stp.refl w) (rep_str.mpr rfl) h⟩
end
end DL

namespace DL
open PySem L2

def Has (ρ : DSt) (i : Nat) : Prop := match ρ[i]? with
  | some (some _) => True
  | _ => False
/-- what stands in a slot, read where it is -/
def look (ρ : DSt) (i : Nat) (Q : DV → Prop) : Prop := match ρ[i]? with
  | some (some (.val d)) => Q d
  | some (some (.own d)) => Q d
  | _ => False
theorem RSt.has {B : Bs} {F : Wo} {ρ : DSt} {σ : St} {H : Hp} (r : RSt B F ρ σ H) {i : Nat} (h : Has ρ i) : ∃ v, σ[i]? = some (some v) := by
  unfold Has at h
  split at h
  next l e =>
    cases l with
    | val d => obtain ⟨v, q, _⟩ := r.val i d e; exact ⟨v, q⟩
    | own d => obtain ⟨p, q, _⟩ := r.own i d e; exact ⟨_, q⟩
  next => exact False.elim h
section
variable {Z : Zx} {X : Cx} {pos p1 : Pos} {e : Expr} {b : AE}
/-- x[e], x a local: nothing is frozen -/
def dIxV (i : Nat) (b : AE) : AE := fun ρ Q => Has ρ i ∧ b ρ fun y ρ1 => look ρ1 i fun d => fIx d y fun z => Q z ρ1
theorem de_ixV {i : Nat} {x : Str} (hN : X.N[i]? = some x) (hv : Vis X.env.scope x) (hu : X.A.units + 100 < cLine) (h2 : DE Z X e b) (hs : PlainIx e := by intro _ _; rfl) (hd : (x == ("__debug__" : Str)) = false := by decide) (hcd : (x == ("__classdict__" : Str)) = false := by decide) :
    DE Z X (.Subscript (.Name x p1) e pos) (dIxV i b) := by
  refine ⟨pe_imp (pe_ix (oo_ix hu) (pe_var hN hv hd hcd) h2.pe hs) fun σ H Q h => ?_⟩
  obtain ⟨B, F, ρ, Q', w, r, ⟨hh, q⟩, k⟩ := h
  obtain ⟨v, hv⟩ := r.has hh
  refine ⟨v, hv, B, F, ρ, _, w, r, q, fun F1 H1 ρ1 dy y w1 x1 r1 hy q1 => ?_⟩
  unfold look at q1
  split at q1
  next d e =>
    obtain ⟨v', hv', hr⟩ := r1.val i d e
    rw [hv] at hv'; cases hv'
    exact od_ix (Z.b B) F1 H1 v y d dy Q _ w1 hr hy q1 fun F2 H2 d2 v2 s hr2 q2 => k F2 H2 ρ1 d2 v2 s.wd (x1.trans s.ext) (s.st _ _ r1) hr2 q2
  next d e =>
    obtain ⟨p, hv', ho, _⟩ := r1.own i d e
    rw [hv] at hv'; cases hv'
    exact own_ix w1 ho hy q1 fun d2 v2 hr2 q2 => k F1 H1 ρ1 d2 v2 w1 x1 r1 hr2 q2
  next => exact False.elim q1
/-- x[i] = e of an own list or dict -/
def putD (ks : List Key) (vs : List DV) (k : Key) (d : DV) : List Key × List DV :=
  if (ks.any fun q => decide (q = k)) = true then (ks, (ks.zip vs).map fun p => if p.1 = k then d else p.2) else (ks ++ [k], vs ++ [d])
def fPut (x z y : DV) (Q : DV → Prop) : Prop := match x with
  | .lst ds => ∃ j k, z = .int j ∧ ixN ds.length j = some k ∧ Q (.lst (ds.set k y))
  | .lsa a ds => ∃ j k, z = .int j ∧ ixN ds.length j = some k ∧ Q (.lsa a (ds.set k y))
  | .dic ks vs => ∃ k, keyD z = some k ∧ ks.length < sizeLine ∧ Q (.dic (putD ks vs k y).1 (putD ks vs k y).2)
  | _ => False
def ownS (ρ : DSt) (i : Nat) (Q : DV → Prop) : Prop := match ρ[i]? with
  | some (some (.own d)) => Q d
  | _ => False
def rPut : V → V → V → Hp → (Hp → Prop) → Prop := fun o i v H Q => rSetL o i v H Q ∨ ∃ a H4, o = .ref a ∧ DPut H a i v H4 ∧ Q H4
theorem so_put (hu : X.A.units + 100 < cLine) : PSet X rPut := by
  intro pins s σ H o i v ov iv u Q I ro ri rv h
  rcases h with h | ⟨a, H4, rfl, g, q⟩
  · exact set_list pins s σ H o i v ov iv u Q I ro ri rv h
  · obtain rfl : ov = Value.ref a := ro
    exact d_setItem (by omega) I g ri rv fun s4 I4 => ⟨H4, I4, q⟩
theorem putK_keys {kvs : List (Key × V)} {k : Key} {v : V} {vs : List DV} {d : DV} {F : Wo} (h : Reps F vs (kvs.map (·.2))) (hd : Rep F d v) :
    (putK kvs k v).map (·.1) = (putD (kvs.map (·.1)) vs k d).1 ∧ Reps F (putD (kvs.map (·.1)) vs k d).2 ((putK kvs k v).map (·.2)) := by
  have e : (kvs.any fun kv => decide (kv.1 = k)) = ((kvs.map (·.1)).any fun q => decide (q = k)) := by rw [List.any_map]; rfl
  unfold putK putD
  rw [e]
  by_cases c : ((kvs.map (·.1)).any fun q => decide (q = k)) = true
  · rw [if_pos c, if_pos c]
    refine ⟨?_, ?_⟩
    · rw [List.map_map]
      refine List.map_congr_left fun kv _ => ?_
      show (if kv.1 = k then (kv.1, v) else kv).1 = kv.1
      split <;> rfl
    · clear c e
      show Reps F (((kvs.map (·.1)).zip vs).map fun p => if p.1 = k then d else p.2) ((kvs.map fun kv => if kv.1 = k then (kv.1, v) else kv).map (·.2))
      induction kvs generalizing vs with
      | nil => simp [reps_nil]
      | cons kv kvs ih =>
        cases vs with
        | nil => rw [List.map_cons] at h; exact absurd (reps_nil.mp h) (by simp)
        | cons d0 vs =>
          obtain ⟨v0, r, e0, h1, h2⟩ := reps_cons.mp h
          rw [List.map_cons] at e0
          cases e0
          simp only [List.map_cons, List.zip_cons_cons]
          refine Reps.cons ?_ (ih h2)
          by_cases c : kv.1 = k
          · rw [if_pos c, if_pos c]; exact hd
          · rw [if_neg c, if_neg c]; exact h1
  · rw [if_neg c, if_neg c]
    exact ⟨by simp, by simpa using h.append (Reps.cons hd Reps.nil)⟩
def dPut (i : Nat) (b a : AE) : ASt := fun K ρ => a ρ fun y ρ1 => Has ρ1 i ∧ b ρ1 fun z ρ2 => ownS ρ2 i fun d => fPut d z y fun d' => K.nx (ρ2.set i (some (Lv.own d')))
theorem ds_put {i : Nat} {x : Str} {ev : Expr} {a : AE} {p3 : Pos} (hN : X.N[i]? = some x) (hv : Vis X.env.scope x) (hu : X.A.units + 100 < cLine) (h1 : DE Z X e b) (h2 : DE Z X ev a) (hd : (x == ("__debug__" : Str)) = false := by decide) (hcd : (x == ("__classdict__" : Str)) = false := by decide)
    (ha : ∀ v, assign (.Subscript (.Name x p1) e p3) X.env v = (do
      let ov ← holding [v] (eval (.Name x p1) X.env)
      let iv ← holding [v, ov] (eval e X.env)
      standAt p3
      holding [v, ov, iv] (setItem ov iv v)
      release [v, ov, iv] []) := by intro _; rfl)
    (hs : swapsWithSole [.Subscript (.Name x p1) e p3] ev pos.line X.env = pure false := by rfl) (hw : swappedStores [.Subscript (.Name x p1) e p3] ev X.env = pure none := by rfl)
    (h3 : (assignEach [.Subscript (.Name x p1) e p3] X.env).map (·.2) = [assign (.Subscript (.Name x p1) e p3) X.env] := by rfl) : DS Z X (.Assign [.Subscript (.Name x p1) e p3] ev pos) (dPut i b a) := by
  refine ⟨ps_imp (ps_asg h2.pe (pg_sub (pe_var hN hv hd hcd) h1.pe (so_put hu) ha) hs hw h3) fun D σ H h => ?_⟩
  obtain ⟨B, F, ρ, K, w, r, q, k⟩ := h
  refine ⟨B, F, ρ, _, w, r, q, fun F1 H1 ρ1 dy y w1 x1 r1 hy ⟨hh, q1⟩ => ?_⟩
  obtain ⟨v, hv⟩ := r1.has hh
  refine ⟨v, hv, B, F1, ρ1, _, w1, r1, q1, fun F2 H2 ρ2 dz z w2 x2 r2 hz q2 => ?_⟩
  unfold ownS at q2
  split at q2
  next d e2 =>
    obtain ⟨p, hv', ho, _⟩ := r2.own i d e2
    rw [hv] at hv'; cases hv'
    have hy2 := hy.mono x2
    cases d with
    | lst ds =>
      obtain ⟨j, n, rfl, hj, q2⟩ := q2
      obtain ⟨vs, hp, hr⟩ := ho
      rw [rep_int.mp hz]
      refine .inl ⟨p, vs, j, n, rfl, rfl, hp, by rw [← hr.length]; exact hj, ?_⟩
      obtain ⟨w3, r3⟩ := r2.turn w2 (d' := .lst (ds.set n dy)) e2 hv ⟨_, upd_same, hr.set hy2 n⟩
      exact k.nx F2 _ σ _ w3 (x1.trans x2) r3 q2
    | lsa a ds =>
      obtain ⟨j, n, rfl, hj, q2⟩ := q2
      obtain ⟨rfl, vs, hp, hr⟩ := ho
      rw [rep_int.mp hz]
      refine .inl ⟨p, vs, j, n, rfl, rfl, hp, by rw [← hr.length]; exact hj, ?_⟩
      obtain ⟨w3, r3⟩ := r2.turn w2 (d' := .lsa p (ds.set n dy)) e2 hv ⟨rfl, _, upd_same, hr.set hy2 n⟩
      exact k.nx F2 _ σ _ w3 (x1.trans x2) r3 q2
    | dic ks ds =>
      obtain ⟨kk, hk, hl, q2⟩ := q2
      obtain ⟨kvs, hp, he, hr⟩ := ho
      subst he
      rw [rep_key hz hk]
      have pk := putK_keys (k := kk) hr hy2
      refine .inr ⟨p, _, rfl, DPut.k hp (by simpa using hl), ?_⟩
      obtain ⟨w3, r3⟩ := r2.turn w2 (d' := .dic (putD (kvs.map (·.1)) ds kk dy).1 (putD (kvs.map (·.1)) ds kk dy).2) e2 hv ⟨_, upd_same, pk.1, pk.2⟩
      exact k.nx F2 _ σ _ w3 (x1.trans x2) r3 q2
    | _ => exact False.elim q2
  next => exact False.elim q2
end
end DL

namespace DL
open PySem L2

def bagC (p q : Addr) (cs : List Int) (i c s : Int) : DV := .lsa p [.lsa q (cs.map DV.int), .int i, .int c, .int s]
def BagOk (n : Nat) (i c s : Int) : Prop := 0 ≤ i ∧ i ≤ n ∧ 0 ≤ c ∧ 0 ≤ s ∧ s < 2147483647
def spPull : DSp := fun ds Q _ => ∃ p n, ds = [.bag p, .int n] ∧ 0 < n ∧ n.natAbs.log2 < 9000 ∧ ∀ k, 0 ≤ k → k < n → Q (.int k)
section
variable {P : Program} {w : World} {K : PySem.W.Frag} {mg : Str → Option Value} {base : Heap}
theorem dpull_ok {x qual : Str} {st : Stmt} {f : Addr} {fd : FuncData} {N ps : List Str} {k : Nat} (Fn : Fun K x qual st f fd) (S : FnScope N ps (defScope st)) (hps : ps.length = 2) {a : ASt}
    (hbody : ∀ (Z : Zx) (cdv : Value) (A : Around) (outer : List Env) (s : Shared) (H : Hp) (E : XK), Room k (A.deeper (PyProof.Rows.envOfC qual (defScope st) s.heap.objs.size f cdv)) →
      DSs Z (cxOf CX0 P w K mg base N qual (defScope st) f cdv A outer s H E).nox (defBody st) a)
    (hsp : ∀ (p q : Addr) (cs : List Int) (i c s n : Int) (Q : DV → Prop), cs.length ≤ 63 → BagOk cs.length i c s → 0 < n → n.natAbs.log2 < 9000 → (∀ k, 0 ≤ k → k < n → Q (.int k)) →
      a { nx := fun _ => False, rt := fun d ρ => Q d ∧ ∃ i c s, BagOk cs.length i c s ∧ ρ[0]? = some (some (Lv.own (bagC p q cs i c s))) }
        (some (Lv.own (bagC p q cs i c s)) :: some (Lv.val (.int n)) :: List.replicate (N.length - 2) none)) : FnOk P w K mg base CX0 (k + 1) f fd ps (spD spPull) := by
  refine Fn.ok S (fun vs H Q E ⟨F, ds, Q', E', _, hr, ⟨p, n, e, _⟩, _, _⟩ => by rw [← hr.length, e, hps]; rfl) fun cdv A outer s H vs Q E hroom h => ?_
  obtain ⟨F, ds, Q', E', w0, hr, ⟨p, n, rfl, n0, nl, hk⟩, hq, hx⟩ := h
  obtain ⟨v, r, rfl, hv, hr⟩ := reps_cons.mp hr
  obtain ⟨v2, r, rfl, hv2, hr⟩ := reps_cons.mp hr
  rw [reps_nil.mp hr, rep_int.mp hv2]
  obtain ⟨rfl, q, cs, fq, hcs, fp⟩ := rep_bag.mp hv
  obtain ⟨o, hp, i, c, sl, rfl, ok⟩ := w0.ce p _ fp
  have hpz : F.fz p = none := by
    cases e : F.fz p with
    | none => rfl
    | some o => rw [w0.dj p o e] at fp; cases fp
  have hce : ∀ b, b ≠ p → (if b = p then none else F.ce b) = F.ce b := fun b n => if_neg n
  refine ⟨_, (hbody (Zx.z0 ⟨F.fz, fun b => if b = p then none else F.ce b, F.lk⟩ fun b => if b = p then none else H b) cdv A outer s H E hroom).ps, fun _ => none, ⟨F.fz, fun b => if b = p then none else F.ce b, F.lk⟩, _, _, ?_, ?_, hsp p q cs i c sl n Q' hcs ok n0 nl hk, ⟨?_, ?_, ?_, ?_, fun _ _ _ _ _ _ _ _ z => z.elim⟩⟩
  · refine ⟨Ext.refl _, w0.fz, fun b f e => ?_, fun _ _ e => .inl e, fun _ _ e => e, fun b o e _ _ => ?_, fun b o e => ?_, (fun _ _ e => nomatch e), w0.lk, w0.nt, (fun _ _ e => nomatch e)⟩
    · have e : (if b = p then none else F.ce b) = some f := e
      split at e
      · cases e
      · exact w0.ce b f e
    · have e : (if b = p then none else H b) = some o := e
      split at e
      · cases e
      · exact .inl e
    · show (if b = p then none else F.ce b) = none
      split
      · rfl
      · exact w0.dj b o e
  · have hN : 2 ≤ N.length := by
      have := congrArg List.length S.pre
      rw [List.length_take, hps] at this
      omega
    refine ⟨fun j d e => ?_, fun j d e => ?_, fun j l d e b hjl h1 h2 => ?_, ?_⟩
    · match j, e with
      | 0, e => simp at e
      | 1, e =>
        simp only [List.getElem?_cons_succ, List.getElem?_cons_zero, Option.some.injEq, Lv.val.injEq] at e
        subst e
        exact ⟨_, rfl, rep_int.mpr rfl⟩
      | j + 2, e =>
        simp only [List.getElem?_cons_succ, List.getElem?_replicate] at e
        split at e <;> cases e
    · match j, e with
      | 0, e =>
        simp only [List.getElem?_cons_zero, Option.some.injEq, Lv.own.injEq] at e
        subst e
        refine ⟨p, rfl, ⟨rfl, _, hp, ?_⟩, Nw.of (if_pos rfl), hpz, if_pos rfl, rfl⟩
        exact Reps.cons (rep_lsa.mpr ⟨rfl, _, fq, ints_reps cs⟩) (Reps.cons (rep_int.mpr rfl) (Reps.cons (rep_int.mpr rfl) (Reps.cons (rep_int.mpr rfl) Reps.nil)))
      | 1, e => simp at e
      | j + 2, e =>
        simp only [List.getElem?_cons_succ, List.getElem?_replicate] at e
        split at e <;> cases e
    · match j, l, h1, h2 with
      | 0, 0, _, _ => exact absurd rfl hjl
      | 0, 1, _, h2 => simp at h2
      | 0, l + 2, _, h2 =>
        simp only [List.getElem?_cons_succ, List.getElem?_replicate] at h2
        split at h2 <;> cases h2
      | 1, _, h1, _ => simp at h1
      | j + 2, _, h1, _ =>
        simp only [List.getElem?_cons_succ, List.getElem?_replicate] at h1
        split at h1 <;> cases h1
    · unfold L2.start
      simp only [List.length_cons, List.length_replicate, List.length_append, List.length_map, List.length_nil]
      omega
  · exact fun _ _ _ _ _ _ _ q' => False.elim q'
  · exact fun _ _ _ _ _ _ _ q' => False.elim q'
  · exact fun _ _ _ _ _ _ _ q' => False.elim q'
  · intro F' H' σ' ρ' d v w' x' r' hd ⟨hQ, i', c', s', ok', e⟩
    obtain ⟨p', hs, ⟨rfl, vs, hp', hr'⟩, _, n1, n2, _⟩ := r'.own 0 _ e
    obtain ⟨v0, r, rfl, h0, hr'⟩ := reps_cons.mp hr'
    obtain ⟨v1, r, rfl, h1, hr'⟩ := reps_cons.mp hr'
    obtain ⟨v2, r, rfl, h2, hr'⟩ := reps_cons.mp hr'
    obtain ⟨v3, r, rfl, h3, hr'⟩ := reps_cons.mp hr'
    rw [reps_nil.mp hr', (rep_lsa.mp h0).1, rep_int.mp h1, rep_int.mp h2, rep_int.mp h3] at hp'
    have xx : Ext F' ⟨F'.fz, fun b => if b = p' then F.ce p' else F'.ce b, F'.lk⟩ := ⟨fun _ _ e => e, fun b f e => by
      show (if b = p' then F.ce p' else F'.ce b) = some f
      by_cases z : b = p'
      · rw [z, n2] at e; cases e
      · rw [if_neg z]; exact e, fun _ _ e => e⟩
    refine hq ⟨F'.fz, fun b => if b = p' then F.ce p' else F'.ce b, F'.lk⟩ H' d v ⟨⟨fun b o e => x'.1 b o e, fun b f e => ?_, fun b o e => x'.2.2 b o e⟩, w'.fz, fun b f e => ?_, fun b o e => ?_, fun b f e => ?_, fun b o e nt z => ?_, fun b o e => ?_, (fun _ _ e => nomatch e), w'.lk, w'.nt, (fun _ _ e => nomatch e)⟩ (hd.mono xx) hQ
    · show (if b = p' then F.ce p' else F'.ce b) = some f
      by_cases z : b = p'
      · rw [if_pos z, ← z]; exact e
      · rw [if_neg z]; exact x'.2.1 b f (by show (if b = p' then none else F.ce b) = some f; rw [if_neg z]; exact e)
    · have e : (if b = p' then F.ce p' else F'.ce b) = some f := e
      by_cases z : b = p'
      · rw [if_pos z, fp] at e
        cases e
        rw [z]
        exact ⟨_, hp', i', c', s', rfl, ok'⟩
      · rw [if_neg z] at e; exact w'.ce b f e
    · rcases w'.nfz b o e with y | y | y
      · exact .inl y
      · by_cases z : b = p'
        · have e : F'.fz b = some o := e
          rw [z, n1] at e; cases e
        · exact .inr (.inl fun u hu => y u (by show (if b = p' then none else H b) = some u; rw [if_neg z]; exact hu))
      · exact .inr (.inr y)
    · have e : (if b = p' then F.ce p' else F'.ce b) = some f := e
      by_cases z : b = p'
      · rw [if_pos z] at e; rw [z]; exact e
      · rw [if_neg z] at e
        have y : (if b = p' then none else F.ce b) = some f := w'.nce b f e
        rw [if_neg z] at y; exact y
    · have e : H b = some o := e
      have z : F.ce b = none := z
      have nb : b ≠ p' := fun y => by rw [y, fp] at z; cases z
      exact w'.fr b o (by show (if b = p' then none else H b) = some o; rw [if_neg nb]; exact e) nt (by show (if b = p' then none else F.ce b) = none; rw [if_neg nb]; exact z)
    · show (if b = p' then F.ce p' else F'.ce b) = none
      by_cases z : b = p'
      · have e : F'.fz b = some o := e
        rw [z, n1] at e; cases e
      · rw [if_neg z]; exact w'.dj b o e
end

def spBag (K : PySem.W.Frag) : Sp := fun vs H Q _ => ∃ (a : Addr) (ns : List Int), vs = [.ref a] ∧ SqL K H a (ns.map V.int) ∧ ns.length ≤ 63 ∧
  ∀ H' p q s, Same H H' → p ≠ q → H' q = some (.lst (ns.map V.int)) → H' p = some (.lst [.ref q, .int 0, .int 0, .int s]) → 0 ≤ s → s < 2147483647 → Q (.ref p) H'
abbrev rA : R2 := rI0 fun i j => .int (i + j)
abbrev rM : R2 := rI CMul fun i j => .int (i * j)
abbrev rR : R2 := rI (fun _ j => 0 < j) fun i j => .int (i % j)
abbrev rLs (K : PySem.W.Frag) : List V → Hp → VK → Prop := fun xs H Q => ∃ p ys, xs = [.ref p] ∧ (SqL K H p ys ∨ SqT K H p ys) ∧ ∀ l, H l = none → Q (.ref l) (upd H l (.lst ys))
abbrev tCut (K : PySem.W.Frag) : TE := tSl (rSlL K) (tVar 0) tNoPart (tPart (tC (.int 63)))
def tBag (K : PySem.W.Frag) : TS := tSeq (tAsg (tC (.int 9473)) (gName 1)) (tSeq
  (tFor (iList K (tCut K)) (gName 2) (tAsg (tOp rR (tOp rA (tOp rA (tOp rM (tVar 1) (tC (.int 48271))) (tOp rR (tVar 2) (tC (.int 2147483629)))) (tC (.int 5))) (tC (.int 2147483647))) (gName 1)))
  (tRet (tLst (tCons (tCB (rLs K) (tCons (tCut K) tNil)) (tCons (tC (.int 0)) (tCons (tC (.int 0)) (tCons (tVar 1) tNil)))))))
theorem cut63 {xs : List V} (h : xs.length ≤ 63) : cutV xs none (some 63) = xs := by
  unfold cutV
  have e : HT.sIx xs.length xs.length (some 63) = xs.length := by
    have := HT.sIx_nat xs.length xs.length 63
    have e2 : HT.sIx xs.length xs.length (some ((63 : Nat) : Int)) = min 63 xs.length := this
    rw [show (some (63 : Int)) = some ((63 : Nat) : Int) from rfl, e2]
    omega
  rw [e, HT.sIx_none, List.drop_zero, Nat.sub_zero, List.take_length]
theorem same_new {H : Hp} {p : Addr} {o : HO} (h : H p = none) : Same H (upd H p o) := fun b x e => by
  rw [upd_ne (ne_of_none e h)]
  exact e
theorem bag_read {K : PySem.W.Frag} {vs : List V} {H : Hp} {Q : VK} {E : XK} (h : spBag K vs H Q E) : tBag K { nx := fun _ H' => Q .non H', rt := Q } (L2.start ["_law_script", "_law_salt", "_law_cell"] vs) H := by
  obtain ⟨a, ns, rfl, hS, hl, q⟩ := h
  have hl' : (ns.map V.int).length ≤ 63 := by simpa using hl
  refine ⟨.ref a, rfl, 63, rfl, a, ns.map V.int, rfl, hS, fun l1 n1 => ?_⟩
  rw [cut63 hl']
  have s1 : Same H (upd H l1 (.lst (ns.map V.int))) := same_new n1
  refine ⟨l1, rfl, ⟨_, SqL.of upd_same⟩, ?_⟩
  refine for_list (K := K) (a := l1) (xs := ns.map V.int) (fun i σ H' => ∃ (s : Int) (z : Option V), σ = [some (.ref a), some (.int s), z] ∧ 0 ≤ s ∧ s < 2147483647 ∧ Same H H' ∧ H' l1 = some (.lst (ns.map V.int)))
    ⟨9473, none, rfl, by decide, by decide, s1, upd_same⟩ (fun i σ H' _ ⟨_, _, _, _, _, _, k⟩ => SqL.of k) (fun i x σ H' hx ⟨s, z, e, s0, s9, sm, hL⟩ => ?_) (fun σ H' ⟨s, z, e, s0, s9, sm, hL⟩ => ?_)
  · subst e
    obtain ⟨m, hm, rfl⟩ : ∃ m, ns[i]? = some m ∧ x = V.int m := by
      rw [List.getElem?_map] at hx
      cases e : ns[i]? with
      | none => rw [e] at hx; cases hx
      | some m => rw [e] at hx; cases hx; exact ⟨m, rfl, rfl⟩
    refine ⟨_, rfl, s, 48271, rfl, rfl, .inl ⟨by omega, by omega⟩, _, rfl, m, 2147483629, rfl, rfl, (by show (0 : Int) < 2147483629; decide), _, _, rfl, rfl, _, 5, rfl, rfl, _, 2147483647, rfl, rfl, (by show (0 : Int) < 2147483647; decide), ?_⟩
    exact ⟨_, _, rfl, Int.emod_nonneg _ (by decide), Int.emod_lt_of_pos _ (by decide), sm, hL⟩
  · subst e
    refine ⟨.ref a, rfl, 63, rfl, a, ns.map V.int, rfl, sm.seq hS, fun l2 n2 => ?_⟩
    rw [cut63 hl']
    refine ⟨l2, ns.map V.int, rfl, .inl (SqL.of upd_same), fun l3 n3 => ?_⟩
    refine ⟨_, rfl, (by show 4 ≤ sizeLine; decide), fun p np => ?_⟩
    have npq : p ≠ l3 := fun e => by rw [e, upd_same] at np; cases np
    refine q _ p l3 s (((sm.trans (same_new n2)).trans (same_new n3)).trans (same_new np)) npq ?_ upd_same s0 s9
    rw [upd_ne (Ne.symm npq), upd_same]

section
variable {P : Program} {w : World} {K : PySem.W.Frag} {mg : Str → Option Value} {base : Heap}
end
end DL

namespace DL
open PySem L2

theorem hu100 {A : Around} {k : Nat} (hr : Room k A) : A.units + 100 < cLine := by have := hr.un; omega
section
variable {Z : Zx} {X : Cx} {pos : Pos} {e e1 e2 : Expr} {a b : AE}
theorem dv (i : Nat) {x : Str} (hN : X.N[i]? = some x := by rfl) (hv : Vis X.env.scope x := by first | exact Or.inl rfl | exact Or.inr (Or.inl rfl) | exact Or.inr (Or.inr rfl)) (hd : (x == ("__debug__" : Str)) = false := by decide)
    (hcd : (x == ("__classdict__" : Str)) = false := by decide) : DE Z X (.Name x pos) (dVar i) := de_var hN hv hd hcd
theorem dix (i : Nat) (hu : X.A.units + 100 < cLine) {x : Str} {p1 : Pos} (h2 : DE Z X e b) (hN : X.N[i]? = some x := by rfl) (hv : Vis X.env.scope x := by first | exact Or.inl rfl | exact Or.inr (Or.inl rfl) | exact Or.inr (Or.inr rfl)) (hs : PlainIx e := by intro _ _; rfl) (hd : (x == ("__debug__" : Str)) = false := by decide)
    (hcd : (x == ("__classdict__" : Str)) = false := by decide) : DE Z X (.Subscript (.Name x p1) e pos) (dIxV i b) := de_ixV hN hv hu h2 hs hd hcd
theorem dgn (i : Nat) {x : Str} (nd : X.N.Nodup) (hi : X.N[i]? = some x := by rfl) (hx : Loc X.env.scope x := by first | exact .inl rfl | exact .inr rfl) (hf : X.fn x = true ∨ X.env.scope.names.lookup x = some .local := by first | exact .inl rfl | exact .inr rfl) :
    DG Z X [i] (.Name x pos) (gN i) := dg_name nd hi hx hf
theorem dset (i : Nat) {x : Str} {pos' : Pos} (nd : X.N.Nodup) (he : DE Z X e a) (hi : X.N[i]? = some x := by rfl) (hx : Loc X.env.scope x := by first | exact .inl rfl | exact .inr rfl) (hs : swapsWith e (some (.Name x pos')) pos.line X.env = pure false := by rfl)
    (hf : X.fn x = true ∨ X.env.scope.names.lookup x = some .local := by first | exact .inl rfl | exact .inr rfl) : DS Z X (.Assign [.Name x pos'] e pos) (dAsg a (gN i)) := ds_set nd hi hx he hs hf
theorem dput (i : Nat) (hu : X.A.units + 100 < cLine) {x : Str} {ev : Expr} {p1 p3 : Pos} (h1 : DE Z X e b) (h2 : DE Z X ev a) (hN : X.N[i]? = some x := by rfl) (hv : Vis X.env.scope x := by first | exact Or.inl rfl | exact Or.inr (Or.inl rfl) | exact Or.inr (Or.inr rfl))
    (hd : (x == ("__debug__" : Str)) = false := by decide) (hcd : (x == ("__classdict__" : Str)) = false := by decide)
    (ha : ∀ v, assign (.Subscript (.Name x p1) e p3) X.env v = (do
      let ov ← holding [v] (eval (.Name x p1) X.env)
      let iv ← holding [v, ov] (eval e X.env)
      standAt p3
      holding [v, ov, iv] (setItem ov iv v)
      release [v, ov, iv] []) := by intro _; rfl)
    (hs : swapsWithSole [.Subscript (.Name x p1) e p3] ev pos.line X.env = pure false := by rfl) (hw : swappedStores [.Subscript (.Name x p1) e p3] ev X.env = pure none := by rfl)
    (h3 : (assignEach [.Subscript (.Name x p1) e p3] X.env).map (·.2) = [assign (.Subscript (.Name x p1) e p3) X.env] := by rfl) : DS Z X (.Assign [.Subscript (.Name x p1) e p3] ev pos) (dPut i b a) :=
  ds_put hN hv hu h1 h2 hd hcd ha hs hw h3
def fNeg (x : DV) (Q : DV → Prop) : Prop := match x with
  | .int i => Q (.int (-i))
  | _ => False
def dNeg (a : AE) : AE := fun ρ Q => a ρ fun x ρ1 => fNeg x fun z => Q z ρ1
theorem de_neg (h : DE Z X e a) : DE Z X (.UnaryOp .USub e pos) (dNeg a) := by
  refine ⟨pe_imp (pe_un un_neg h.pe) fun σ H Q h => ?_⟩
  obtain ⟨B, F, ρ, Q', w, r, q, k⟩ := h
  refine ⟨B, F, ρ, _, w, r, q, fun F' H' ρ' d v w' x' r' hr q' => ?_⟩
  cases d <;> first | exact False.elim q' | skip
  rw [rep_int.mp hr]
  exact ⟨_, rfl, k F' H' ρ' _ _ w' x' r' (rep_int.mpr rfl) q'⟩
end

/-- a promise with its arity -/
def spN (n : Nat) (sp : DSp) : DSp := fun ds Q E => ds.length = n ∧ sp ds Q E
/-- a def of the text that has been proved: by its name -/
structure Cal (P : Program) (w : World) (K : PySem.W.Frag) (mg : Str → Option Value) (base : Heap) (x : Str) (k : Nat) (n : Nat) (sp : DSp) : Prop where
  ex : ∃ (f : Addr) (fd : FuncData) (ps : List Str), FnOk P w K mg base CX0 k f fd ps (spD (spN n sp)) ∧ mg x = some (.ref f) ∧ PySem.W.keepIn K (.ref f) = true ∧ Binds K fd ps [] ∧ ps.length = n
/-- a def as it stands, told by its name -/
structure Tx (K : PySem.W.Frag) (mg : Str → Option Value) (x : Str) (st : Stmt) : Prop where
  ex : ∃ (f : Addr) (fd : FuncData), Fun K x x st f fd ∧ mg x = some (.ref f)
section
variable {Z : Zx} {X : Cx} {pos p : Pos} {x : Str} {e : Expr} {es : List Expr} {t : AA} {k n : Nat} {sp : DSp}
theorem dcall (G : Cal X.prog X.w X.K X.mg X.base x k n sp) (hr : Room k X.A) (ha : DA Z X (e :: es) t) (hg : Gl X x := by rfl) (hdb : (x == ("__debug__" : Str)) = false := by decide) (he : starEach (e :: es) X.env = (false, eval e X.env) :: starEach es X.env := by rfl)
    (hpl : (backTo pos (starEach es X.env)).any (·.1) = false := by rfl) : DE Z X (.Call (.Name x p) (e :: es) [] pos) (dCall (spN n sp) noE [] t) := by
  obtain ⟨f, fd, ps, G, m, kp, b, hn⟩ := G.ex
  exact de_call G hr hg m kp b .nil (fun _ => Reps.nil) ha hdb he hpl
end
section
variable {P : Program} {w : World} {K : PySem.W.Frag} {mg : Str → Option Value} {base : Heap}
/-- arity 1 to 5: how the arguments bind -/
abbrev BindAs (st : Stmt) (x : Str) (ps : List Str) : Prop := ∀ (kV doc pm : Value) (an : Option Addr) (cdv ct : Value) (us : List Value), us.length = ps.length → bindArgs (PySem.W.fnOf x x (defArgs st) (defBody st) (defScope st) .none kV doc pm an cdv ct) ⟨us, []⟩ = pure (ps.zip us)
theorem dcal_ok {x : Str} {st : Stmt} {N ps : List Str} {k : Nat} {sp : DSp} (T : Tx K mg x st) (S : FnScope N ps (defScope st)) (hb : BindAs st x ps) {a : ASt}
    (hbody : ∀ (f : Addr) (Z : Zx) (cdv : Value) (A : Around) (outer : List Env) (s : Shared) (H : Hp) (E : XK), Room k (A.deeper (PyProof.Rows.envOfC x (defScope st) s.heap.objs.size f cdv)) →
      DSs Z (cxOf CX0 P w K mg base N x (defScope st) f cdv A outer s H E).nox (defBody st) a)
    (hsp : ∀ ds Q E, sp ds Q E → a { nx := fun _ => Q .non, rt := fun d _ => Q d } (startD N.length ds)) : Cal P w K mg base x (k + 1) ps.length sp := by
  obtain ⟨f, fd, F, m⟩ := T.ex
  exact ⟨f, fd, ps, dfn_ok F S (fun _ _ _ h => h.1) (hbody f) (fun ds Q E h => hsp ds Q E h.2), m, F.kp, F.binds hb, rfl⟩
theorem dcal_pull {x : Str} {st : Stmt} {N ps : List Str} {k : Nat} (T : Tx K mg x st) (S : FnScope N ps (defScope st)) (hb : BindAs st x ps) (hps : ps.length = 2) {a : ASt}
    (hbody : ∀ (f : Addr) (Z : Zx) (cdv : Value) (A : Around) (outer : List Env) (s : Shared) (H : Hp) (E : XK), Room k (A.deeper (PyProof.Rows.envOfC x (defScope st) s.heap.objs.size f cdv)) →
      DSs Z (cxOf CX0 P w K mg base N x (defScope st) f cdv A outer s H E).nox (defBody st) a)
    (hsp : ∀ (p q : Addr) (cs : List Int) (i c s n : Int) (Q : DV → Prop), cs.length ≤ 63 → BagOk cs.length i c s → 0 < n → n.natAbs.log2 < 9000 → (∀ k, 0 ≤ k → k < n → Q (.int k)) →
      a { nx := fun _ => False, rt := fun d ρ => Q d ∧ ∃ i c s, BagOk cs.length i c s ∧ ρ[0]? = some (some (Lv.own (bagC p q cs i c s))) }
        (some (Lv.own (bagC p q cs i c s)) :: some (Lv.val (.int n)) :: List.replicate (N.length - 2) none)) : Cal P w K mg base x (k + 1) 2 spPull := by
  obtain ⟨f, fd, F, m⟩ := T.ex
  exact ⟨f, fd, ps, (dpull_ok F S hps (hbody f) hsp).imp fun vs H Q E ⟨F, ds, Q', E', w0, r, s, q, qx⟩ => ⟨F, ds, Q', E', w0, r, s.2, q, qx⟩, m, F.kp, F.binds hb, hps⟩
end
end DL

namespace DL
open PySem L2

theorem cal_none {P : Program} {w : World} {K : PySem.W.Frag} {mg : Str → Option Value} {base : Heap} {x : Str} {st : Stmt} {ps : List Str} {k : Nat} (T : Tx K mg x st) (hb : BindAs st x ps) : Cal P w K mg base x k ps.length (fun _ _ _ => False) := by
  obtain ⟨f, fd, F, m⟩ := T.ex
  exact ⟨f, fd, ps, ⟨fun vs H Q E ⟨_, _, _, _, _, _, s, _, _⟩ => False.elim s.2, fun _ _ _ _ _ _ _ _ _ _ _ _ _ ⟨_, _, _, _, _, _, s, _, _⟩ => False.elim s.2⟩, m, F.kp, F.binds hb, rfl⟩
theorem pull_go {p : Addr} {n : Int} {Q : DV → Prop} {E : ED} (h0 : 0 < n) (hl : n.natAbs.log2 < 9000) (hk : ∀ k, 0 ≤ k → k < n → Q (.int k)) : spN 2 spPull [.bag p, .int n] Q E := ⟨rfl, p, n, rfl, h0, hl, hk⟩
theorem log_of {i : Int} {n : Nat} (h : i.natAbs < 2 ^ n) (h0 : 0 < n) : i.natAbs.log2 < n := PySem.Flt.log2_lt_of h0 h
theorem cmulW {i j : Int} (h1 : i.natAbs < 2 ^ 64) (h2 : j.natAbs < 2 ^ 64) : CMulW i j := by
  have := log_of h1 (by decide)
  have := log_of h2 (by decide)
  unfold CMulW
  omega
theorem cdivW {i j : Int} (h0 : 0 < j) (h2 : j.natAbs.log2 < 9000) : CDivW i j := ⟨h0, h2⟩
def spOf : DSp := fun ds Q _ => ∃ p x, ds = [.bag p, x] ∧ match x with
  | .str z => 0 < z.length ∧ z.length ≤ sizeLine ∧ ∀ c ∈ z.cps.toList, Q (.str ⟨#[c]⟩)
  | .lst xs => xs ≠ [] ∧ xs.length ≤ sizeLine ∧ ∀ d ∈ xs, Q d
  | .tup xs => xs ≠ [] ∧ xs.length ≤ sizeLine ∧ ∀ d ∈ xs, Q d
  | _ => False
theorem line_log {n : Nat} (h : n ≤ sizeLine) : (n : Int).natAbs.log2 < 9000 := by
  refine Nat.lt_of_lt_of_le (log_of (n := 64) ?_ (by decide)) (by decide)
  rw [sizeLine_eq] at h
  have : (n : Int).natAbs = n := Int.natAbs_natCast n
  rw [this]
  exact Nat.lt_of_le_of_lt h (by decide)
theorem atI_mem {α : Type} {xs : List α} {k : Int} (h0 : 0 ≤ k) (h1 : k < xs.length) : ∃ x, atI xs k = some x ∧ x ∈ xs := by
  have hk : k.toNat < xs.length := by omega
  refine ⟨xs[k.toNat], ?_, List.getElem_mem hk⟩
  have := atI_nat (xs := xs) (j := k.toNat) (v := xs[k.toNat]) (List.getElem?_eq_getElem hk)
  rwa [Int.toNat_of_nonneg h0] at this
theorem str_join_len (y : Str) : ∀ ys : List Str, (Str.join y ys).length ≤ (ys.map Str.length).sum + ys.length * y.length
  | [] => by simp [Str.join]; rfl
  | [x] => by simp [Str.join]
  | x :: z :: r => by
    have ih := str_join_len y (z :: r)
    have e : (Str.join y (x :: z :: r)).length = x.length + y.length + (Str.join y (z :: r)).length := by
      show ((x ++ y) ++ Str.join y (z :: r)).cps.size = x.cps.size + y.cps.size + (Str.join y (z :: r)).cps.size
      show (((x.cps ++ y.cps) ++ (Str.join y (z :: r)).cps)).size = _
      rw [Array.size_append, Array.size_append]
    rw [e]
    simp only [List.map_cons, List.sum_cons, List.length_cons, Nat.add_mul] at ih ⊢
    omega
theorem join_len (y : Str) (ys : List Str) : (Txt.join y ys).length ≤ (ys.map Str.length).sum + ys.length * y.length := by
  rw [TL.join_eq]
  exact str_join_len y ys
theorem app_len (x y : Str) : (x ++ y).length = x.length + y.length := by
  show (x.cps ++ y.cps).size = x.cps.size + y.cps.size
  rw [Array.size_append]
def letters : Str := "abcdefghijklmnopqrstuvwxyz"
def nameB (z : Str) : Bool := decide ((1 : Int) ≤ z.length) && (decide ((z.length : Int) ≤ 6) && z.cps.toList.all fun c => strIn ⟨#[c]⟩ letters)
def spIsName : DSp := fun ds Q _ => ∃ z, ds = [.str z] ∧ z.length ≤ sizeLine ∧ Q (.bl (nameB z))
theorem signs_len (z : Str) : (signs z).length = z.length := by
  unfold signs
  rw [List.length_map, Array.length_toList]
  rfl
theorem signs_all (z y : Str) : boolsD ((signs z).map fun d => match d with | .str i => DV.bl (strIn i y) | _ => .non) = some (z.cps.toList.map fun c => strIn ⟨#[c]⟩ y) := by
  unfold signs
  rw [List.map_map]
  exact boolsD_map (fun c => strIn ⟨#[c]⟩ y) _
def plainD : Nat → DV → Prop
  | _, .non => True
  | _, .bl _ => True
  | _, .int _ => True
  | _, .str _ => True
  | d + 1, .tup xs => xs.length ≤ sizeLine ∧ ∀ x ∈ xs, plainD d x
  | d + 1, .lst xs => xs.length ≤ sizeLine ∧ ∀ x ∈ xs, plainD d x
  | _, _ => False
/-- only the question whether a thing is the same as itself -/
def spSame : Nat → DSp
  | 0 => fun _ _ _ => False
  | d + 1 => fun ds Q _ => ∃ x, ds = [x, x] ∧ plainD d x ∧ Q (.bl true)
theorem same_go {d : Nat} {x y : DV} {Q : DV → Prop} {E : ED} (e : x = y) (pl : plainD d x) (h : Q (.bl true)) : spN 2 (spSame (d + 1)) [x, y] Q E := by
  subst e
  exact ⟨rfl, x, rfl, pl, h⟩
theorem all_true {α : Type} (l : List α) : boolsD (l.map fun _ => DV.bl true) = some (l.map fun _ => true) := boolsD_map (fun _ => true) l
theorem all_true2 {α : Type} (l : List α) : (l.map fun _ => true).all id = true := by
  rw [List.all_map, List.all_eq_true]
  intros; rfl
end DL

namespace DL
open PySem L2

/-- a walk by a word of the state; what follows is a name of its own within the body -/
theorem dWalk_by {g : AG} {t : ASt} {K : DEnds} (I : List DV → DSt → Prop) {ds : List DV} {ρ : DSt} (h0 : I ds ρ) (hn : ∀ ρ, I [] ρ → K.nx ρ)
    (hc : ∀ (d : DV) (r : List DV) (ρ : DSt) (K' : DEnds), (∀ ρ', I r ρ' → K'.nx ρ') → (∀ ρ', I r ρ' → K'.ct ρ') → (∀ ρ', K.nx ρ' → K'.bk ρ') → (∀ x ρ', K.rt x ρ' → K'.rt x ρ') → I (d :: r) ρ → g d ρ fun ρ1 => t K' ρ1) : dWalk g t K ds ρ :=
  dWalk_ind I h0 hn fun d r ρ W hW h => hc d r ρ { nx := W, rt := K.rt, bk := K.nx, ct := W } hW hW (fun _ q => q) (fun _ _ q => q) h
section
variable {Z : Zx} {X : Cx} {pos : Pos} {e : Expr} {a : AE} {t : AA} {es : List Expr} {js : List Nat}
def gTl (n : Nat) (u : AGs) : AG := fun d ρ Q => match d with
  | .tup ds => ds.length = n ∧ u ds ρ Q
  | .lst ds => ds.length = n ∧ u ds ρ Q
  | _ => False
theorem dg_tl {k : Nat} {u : AGs} {n : Nat} (hc : X.calm = true) (h : DGs Z X js es u)
    (hn : (assignEach es X.env).length = n := by rfl) (hst : (assignEach es X.env).findIdx? (·.1) = none := by rfl) : DG Z X js (.Tuple es k pos) (gTl n u) := by
  refine ⟨⟨fun pins s σ H v uu Q I r hw => ?_⟩⟩
  obtain ⟨B, F, ρ, d, Q', w, r0, hr, q, k⟩ := hw
  cases d with
  | tup ds =>
    obtain ⟨p, vs, rfl, f, hs⟩ := rep_tup.mp hr
    exact (pg_tup hc h.pg hn hst).run pins s σ H _ uu Q I r ⟨p, vs, rfl, SqT.of (w.sqT (K := X.K) f), by rw [← hs.length]; exact q.1, B, F, ρ, ds, Q', w, r0, hs, q.2, k⟩
  | lst ds =>
    obtain ⟨p, vs, rfl, f, hs⟩ := rep_lst.mp hr
    exact (pg_lst hc h.pg hn hst).run pins s σ H _ uu Q I r ⟨p, vs, rfl, SqL.of (w.sqL (K := X.K) f), by rw [← hs.length]; exact q.1, B, F, ρ, ds, Q', w, r0, hs, q.2, k⟩
  | _ => exact False.elim q
def fAddI (x y : DV) (Q : DV → Prop) : Prop := match x, y with
  | .int i, .int j => Q (.int (i + j))
  | _, _ => False
theorem od_addI : OpD (rI0 fun i j => .int (i + j)) fAddI := by
  intro B F H x y dx dy Q Q' w hx hy h k
  cases dx <;> first | exact False.elim h | (cases dy <;> first | exact False.elim h | skip)
  rw [rep_int.mp hx, rep_int.mp hy]; exact ⟨_, _, rfl, rfl, k F H _ _ (Stp.refl w) (rep_int.mpr rfl) h⟩
theorem reps_range {F : Wo} (lo : Int) (n : Nat) : Reps F (rangeD lo n) ((List.range n).map fun i => V.int (lo + (i : Nat))) := by
  have e1 : rangeD lo n = ((List.range n).map fun i => lo + ((i : Nat) : Int)).map DV.int := by simp [rangeD]
  have e2 : ((List.range n).map fun i => V.int (lo + (i : Nat))) = ((List.range n).map fun i => lo + ((i : Nat) : Int)).map V.int := by simp
  rw [e1, e2]
  exact ints_reps _
theorem range_len (lo : Int) (n : Nat) : (rangeD lo n).length = n := by unfold rangeD; rw [List.length_map, List.length_range]
def dLRg1 (a : AE) : AE := fun ρ Q => a ρ fun d ρ1 => match d with
  | .int n => RgOk 0 n ∧ Q (.lst (rangeD 0 (n - 0).toNat)) ρ1
  | _ => False
theorem de_lrg1 {p p2 pos2 : Pos} (hc : X.calm = true) (hg : Gl X "list") (hm : X.mg "list" = none) (hg2 : Gl X "range") (hm2 : X.mg "range" = none) (ha : DE Z X e a) (na : starEach [e] X.env = (false, eval e X.env) :: starEach [] X.env := by rfl)
    (na2 : starEach [(.Call (.Name "range" p) [e] [] pos)] X.env = (false, eval (.Call (.Name "range" p) [e] [] pos) X.env) :: starEach [] X.env := by rfl) : DE Z X (.Call (.Name "list" p2) [.Call (.Name "range" p) [e] [] pos] [] pos2) (dLRg1 a) := by
  refine ⟨pe_imp (pe_listRg hc hg hm (prg_1 hg2 hm2 ha.pe na) na2) fun σ H Q h => ?_⟩
  obtain ⟨B, F, ρ, Q', w, r, q, k⟩ := h
  refine ⟨B, F, ρ, _, w, r, q, fun F' H' ρ' d v w' x' r' hr q' => ?_⟩
  cases d with
  | int n =>
    rw [rep_int.mp hr]
    refine ⟨n, rfl, q'.1, fun p hp => ?_⟩
    obtain ⟨s, hr⟩ := Stp.lstN w' hp (reps_range (F := F') 0 (n - 0).toNat)
    exact k _ _ ρ' _ _ s.wd (x'.trans s.ext) (s.st _ _ r') hr q'.2
  | _ => exact False.elim q'

inductive TNi (Z : Zx) (a : AE) (σ : St) (H : Hp) (Q : VK) : Prop
  | mk (L : Addr → Option HO) (F : Wo) (ρ : DSt) (Q' : DV → DSt → Prop) (w : Wd (Z.b L) F H) (r : RSt (Z.b L) F ρ σ H) (q : a ρ Q')
    (k : ∀ F' H' ρ' d p, Wd (Z.b L) F' H' → Ext F F' → RSt (Z.b L) F' ρ' σ H' → OwnAt F' H' p d → (Nw (Z.b L).H p ∧ F'.fz p = none ∧ F'.ce p = none ∧ (Z.b L).L p = none) → (∀ (j : Nat) (e : DV), ρ'[j]? = some (some (Lv.own e)) → σ[j]? ≠ some (some (.ref p))) → Q' d ρ' → Q (.ref p) H') : TNi Z a σ H Q
def tDN (Z : Zx) (a : AE) : TE := fun σ H Q => TNi Z a σ H Q
structure DN (Z : Zx) (X : Cx) (e : Expr) (a : AE) : Prop where
  pe : PE X e (tDN Z a)
def dOwn (i : Nat) (a : AE) : ASt := fun K ρ => a ρ fun d ρ1 => i < ρ1.length ∧ K.nx (ρ1.set i (some (Lv.own d)))
theorem dson (i : Nat) {x : Str} {pos' : Pos} (nd : X.N.Nodup) (he : DN Z X e a) (hi : X.N[i]? = some x := by rfl) (hx : Loc X.env.scope x := by first | exact .inl rfl | exact .inr rfl) (hs : swapsWith e (some (.Name x pos')) pos.line X.env = pure false := by rfl)
    (hf : X.fn x = true ∨ X.env.scope.names.lookup x = some .local := by first | exact .inl rfl | exact .inr rfl) : DS Z X (.Assign [.Name x pos'] e pos) (dOwn i a) := by
  refine ⟨ps_imp (ps_set nd hi hx he.pe hs hf) fun D σ H h => ?_⟩
  obtain ⟨B, F, ρ, K, w, r, q, k⟩ := h
  refine ⟨B, F, ρ, _, w, r, q, fun F' H' ρ' d p w' x' r' ho ⟨b0, n1, n2, n3⟩ hd ⟨hl, q'⟩ => ?_⟩
  exact k.nx F' H' _ _ w' x' (r'.putOwn hl ho b0 n1 n2 n3 (fun j e _ he => hd j e he)) q'
/-- a new loose object beside the locals -/
theorem own_new {B : Bs} {F : Wo} {H : Hp} {p : Addr} {o : HO} {ρ : DSt} {σ : St} (w : Wd B F H) (r : RSt B F ρ σ H) (hp : H p = none) :
    (Nw B.H p ∧ F.fz p = none ∧ F.ce p = none ∧ B.L p = none) ∧ (∀ (j : Nat) (e : DV), ρ[j]? = some (some (Lv.own e)) → σ[j]? ≠ some (some (.ref p))) := by
  refine ⟨⟨w.new hp, w.nf hp, w.nc hp, w.nl hp⟩, fun j e he z => ?_⟩
  obtain ⟨q, hs, ho, _⟩ := r.own j e he
  rw [hs] at z
  cases z
  obtain ⟨u, hu⟩ := ho.there
  rw [hp] at hu; cases hu
theorem dn_lst (h : DA Z X es t) : DN Z X (.List es pos) (dLst t) := by
  refine ⟨pe_imp (pe_lst h.pa) fun σ H Q h => ?_⟩
  obtain ⟨B, F, ρ, Q', w, r, q, k⟩ := h
  refine ⟨B, F, ρ, _, w, r, q, fun F1 H1 ρ1 ds vs w1 x1 r1 hs q1 => ⟨by rw [← hs.length]; exact q1.1, fun p hp => ?_⟩⟩
  have s := w1.loose (o := .lst vs) hp
  obtain ⟨lo, dj⟩ := own_new (o := .lst vs) w1 r1 hp
  exact k _ _ ρ1 (.lst ds) p s.wd x1 (s.st _ _ r1) ⟨vs, upd_same, hs⟩ lo dj q1.2
def dDic0 : AE := fun ρ Q => Q (.dic [] []) ρ
theorem dn_dic0 : DN Z X (.Dict [] [] pos) dDic0 := by
  refine ⟨pe_imp pe_dnewK fun σ H Q h => ?_⟩
  obtain ⟨B, F, ρ, Q', w, r, q, k⟩ := h
  intro p hp
  have s := w.loose (o := .dK []) hp
  obtain ⟨lo, dj⟩ := own_new (o := .dK []) w r hp
  exact k _ _ ρ (.dic [] []) p s.wd (Ext.refl F) (s.st _ _ r) ⟨[], upd_same, rfl, Reps.nil⟩ lo dj q
def fDict (ds : List DV) (Q : DV → Prop) : Prop := match ds with
  | [.dic ks vs] => Q (.dic ks vs)
  | _ => False
theorem cd_dict : ClD (fun xs H Q => ∃ (a : Addr) (kvs : List (Key × V)), xs = [.ref a] ∧ Rd H a (.dK kvs) ∧ ∀ p, H p = none → Q (.ref p) (upd H p (.dK kvs))) fDict := by
  intro B F H xs ds Q Q' w hs h k
  match ds, h with
  | [.dic ks es], h =>
    obtain ⟨v, r, rfl, hv, hr⟩ := reps_cons.mp hs
    obtain ⟨p, kvs, rfl, f, e, q⟩ := rep_dic.mp hv
    rw [reps_nil.mp hr]
    refine ⟨p, kvs, rfl, w.rdD f, fun l hl => ?_⟩
    have s := w.lay (o := .dK kvs) hl
    exact k _ _ _ _ s (rep_dic.mpr ⟨l, kvs, rfl, Wo.add_same, e, q.mono s.ext⟩) h

def fApp (d y : DV) (Q : DV → Prop) : Prop := match d with
  | .lst ds => ds.length < sizeLine ∧ Q (.lst (ds ++ [y]))
  | _ => False
def fExt (d y : DV) (Q : DV → Prop) : Prop := match d, y with
  | .lst ds, .lst es => ds.length + es.length ≤ sizeLine ∧ Q (.lst (ds ++ es))
  | _, _ => False
def IsLo (ρ : DSt) (i : Nat) : Prop := ∃ ds, ρ[i]? = some (some (Lv.own (.lst ds)))
/-- x.append(e), x.extend(e) -/
def dMut (i : Nat) (f : DV → DV → (DV → Prop) → Prop) (a : AE) : ASt := fun K ρ => IsLo ρ i ∧ a ρ fun y ρ1 => ownS ρ1 i fun d => f d y fun d' => K.nx (ρ1.set i (some (Lv.own d')))
/-- what a method does to an own list -/
def MuD (r : V → List V → Hp → VK → Prop) (f : DV → DV → (DV → Prop) → Prop) : Prop := ∀ (B : Bs) (F : Wo) (H : Hp) (p : Addr) (y : V) (d dy : DV) (Q : VK) (Q' : DV → Prop), Wd B F H → OwnAt F H p d → Rep F dy y → f d dy Q' →
  (∀ d' o, OwnAt F (upd H p o) p d' → Q' d' → Q .non (upd H p o)) → r (.ref p) [y] H Q
theorem mu_app : MuD rAppend fApp := by
  intro B F H p y d dy Q Q' w ho hy h k
  cases d with
  | lst ds =>
    obtain ⟨vs, hp, hr⟩ := ho
    exact ⟨p, vs, y, rfl, rfl, hp, by rw [← hr.length]; exact h.1, k (.lst _) _ ⟨_, upd_same, hr.append (Reps.cons hy Reps.nil)⟩ h.2⟩
  | _ => exact False.elim h
theorem mu_ext : MuD rExtend fExt := by
  intro B F H p y d dy Q Q' w ho hy h k
  cases d with
  | lst ds =>
    cases dy with
    | lst es =>
      obtain ⟨vs, hp, hr⟩ := ho
      obtain ⟨b, ws, rfl, fb, hb⟩ := rep_lst.mp hy
      exact ⟨p, b, vs, ws, rfl, rfl, hp, w.sqL (K := default) fb, by rw [← hr.length, ← hb.length]; exact h.1, k (.lst _) _ ⟨_, upd_same, hr.append hb⟩ h.2⟩
    | _ => exact False.elim h
  | _ => exact False.elim h
variable {x name : Str} {p1 apos cpos : Pos} {id : String} {r : V → List V → Hp → VK → Prop} {f : DV → DV → (DV → Prop) → Prop}
theorem ds_mut (i : Nat) (slot : PySem.Slot "list" name id) (hty : typeOf (.builtin id) = pure (.type "method_descriptor")) (hm : MtR X id r) (mu : MuD r f) (ha : DE Z X e a)
    (hN : X.N[i]? = some x := by rfl) (hv : Vis X.env.scope x := by first | exact Or.inl rfl | exact Or.inr (Or.inl rfl) | exact Or.inr (Or.inr rfl)) (hd : (x == ("__debug__" : Str)) = false := by decide) (hcd : (x == ("__classdict__" : Str)) = false := by decide)
    (hbase : attributeBase (.Name x p1) name X.env (eval (.Name x p1) X.env) = eval (.Name x p1) X.env := by rfl)
    (hfew : ((backTo cpos (starEach (e :: []) X.env)).all (fun x => !x.1) && (backToKw cpos (keywordEach [] X.env)).all (fun x => x.1.isSome)
      && decide ((e :: []).length + ([] : List Keyword).length + (if ([] : List Keyword).isEmpty then 0 else 1) < 30)) = true := by rfl)
    (hline : (apos.endLine == cpos.line) = true := by rfl) (hs : starEach (e :: []) X.env = (false, eval e X.env) :: starEach [] X.env := by rfl) (hplain : (backTo cpos (starEach [] X.env)).any (·.1) = false := by rfl)
    (hsw : swapsWith (.Call (.Attribute (.Name x p1) name apos) [e] [] cpos) none pos.line X.env = pure false := by rfl) :
    DS Z X (.Expr (.Call (.Attribute (.Name x p1) name apos) [e] [] cpos) pos) (dMut i f a) := by
  refine ⟨ps_imp (ps_expr (pe_bm PySem.F.plainAttrs_list slot hty hm (pe_var hN hv hd hcd) (da_cons ha da_nil hs).pa hbase hfew hline hs hplain) hsw) fun D σ H h => ?_⟩
  obtain ⟨B, F, ρ, K, w, r0, ⟨⟨ds0, e0⟩, q⟩, k⟩ := h
  obtain ⟨p, hs, ⟨vs0, hp0, _⟩, _⟩ := r0.own i _ e0
  refine ⟨_, hs, .inl ⟨rfl, vs0, SqL.of hp0⟩, B, F, ρ, (fun zs ρ1 => match zs with | [y] => (ownS ρ1 i fun d => f d y fun d' => K.nx (ρ1.set i (some (Lv.own d')))) | _ => False), w, r0, q, fun F1 H1 ρ1 zs vs w1 x1 r1 hz q1 => ?_⟩
  obtain ⟨y, rfl⟩ : ∃ y, zs = [y] := by
    match zs, q1 with
    | [y], _ => exact ⟨y, rfl⟩
  have q1 : ownS ρ1 i fun d => f d y fun d' => K.nx (ρ1.set i (some (Lv.own d'))) := q1
  obtain ⟨v, rr, rfl, hy, hr⟩ := reps_cons.mp hz
  rw [reps_nil.mp hr]
  unfold ownS at q1
  split at q1
  next d e1 =>
    obtain ⟨p', hs', ho, _⟩ := r1.own i d e1
    rw [hs] at hs'; cases hs'
    refine mu (Z.b B) F1 H1 p v d y _ _ w1 ho hy q1 fun d' o ho' q2 => ?_
    obtain ⟨w3, r3⟩ := r1.turn w1 (d' := d') e1 hs ho'
    exact k.nx F1 _ σ _ w3 x1 r3 q2
  next => exact False.elim q1
end
end DL

namespace EL
open PySem PySem.Spec PyProof.Rows L2

theorem flying_grow {base h h' : Heap} {l : List Env} {e : Addr} {Z : Obj → Prop} (f : HandSPX.FlyingZ base l e Z h) (k : ∀ b o, h.get? b = some o → h'.get? b = some o) : HandSPX.FlyingZ base l e Z h' := by
  obtain ⟨f1, f2, f3, oe, vs, T, oT, ts, a1, a2, a3, a4, a5, a6, a7, a8, a9⟩ := f
  exact ⟨fun b o q => k b o (f1 b o q), f2, f3.of_keeps fun b o q _ => ⟨o, k b o q, rfl⟩, oe, vs, T, oT, ts, k _ _ a1, a2, a3, a4, a5, a6, k _ _ a7, a8, a9⟩

/-- a clause's test: the classes that it names -/
def TestOk (X : Cx) (te : Expr) (cs : List Value) : Prop := ∀ (a : Addr) (oe : Obj) (pn : List (Addr × Obj)) (s : Shared) (σ : L2.St) (H : Hp) (cls : Value) (b : Bool) (Q : Bool → Shared → Prop) (E E' : Value → Shared → Prop),
  Inv (X.suite a ((a, oe) :: pn)) [] σ H s → PySem.W.Looks (model X.prog X.w) s.heap (typeOf (.ref a)) cls → PySem.W.exmAny X.K cls cs = some b →
  (∀ h', (∀ b o, s.heap.get? b = some o → h'.get? b = some o) → Q b { s with heap := h' }) →
  wpAny (model X.prog X.w) (X.A.mark (some (.ref a))) (eval te X.env) (fun c s₁ => wpAny (model X.prog X.w) (X.A.mark (some (.ref a))) (excMatches (.ref a) c) Q E' s₁) E s
section
variable {X : Cx} {x x1 x2 x3 x4 : Str} {c c1 c2 c3 c4 : Value} {p p1 p2 p3 p4 pos : Pos} {k : Nat}
theorem name_here (hc : Names X x c) {a : Addr} {oe : Obj} {pn : List (Addr × Obj)} {s : Shared} {σ : L2.St} {H : Hp} (I : Inv (X.suite a ((a, oe) :: pn)) [] σ H s) {Q : Value → Shared → Prop} {E : Value → Shared → Prop} (q : Q c s) :
    wpAny (model X.prog X.w) (X.A.mark (some (.ref a))) (eval (.Name x p) X.env) Q E s := by
  obtain ⟨hg, hdbg, hm | ⟨hm, hv, hnn⟩⟩ := hc
  · exact ld_glob (X := X.suite a ((a, oe) :: pn)) I hg hm q hdbg
  · exact ld_blt (X := X.suite a ((a, oe) :: pn)) I hg hm hv q hnn hdbg
theorem test_one (hc : Names X x c) : TestOk X (.Name x p) [c] := by
  intro a oe pn s σ H cls b Q E E' I LT hx h
  refine name_here hc I ?_
  have h1 : PySem.W.exmOne X.K cls c = some b := by
    obtain ⟨b1, d1, e1, e2, rfl⟩ := PySem.W.exmAny_cons hx
    cases (show some false = some d1 from e2)
    rw [e1, Bool.or_false]
  exact (PySem.W.exm_one (M := model X.prog X.w) I.kIn LT h1).here (h s.heap fun _ _ e => e)
theorem test_two (h1 : Names X x1 c1) (h2 : Names X x2 c2) : TestOk X (.Tuple [.Name x1 p1, .Name x2 p2] k pos) [c1, c2] := by
  intro a oe pn s σ H cls b Q E E' I LT hx h
  refine wpAny_Tuple_spliced ?_
  refine Calls.spliced_cons (name_here h1 I (Calls.spliced_cons (name_here h2 I (Calls.spliced_nil ⟨by rw [sizeLine_eq]; show 2 ≤ 16777216; decide, ?_⟩))))
  have kp : ∀ b o, s.heap.get? b = some o → (s.heap.push { cls := .type "tuple", data := .seq [c1, c2].toArray }).get? b = some o := fun b o e => Heap.get?_push_of_some _ e
  exact (PySem.W.exm_tup2 (M := model X.prog X.w) (I.kIn.keeps kp) (LT.keeps kp) (Heap.get?_push_size s.heap rfl) hx).here (h _ kp)
theorem test_three (h1 : Names X x1 c1) (h2 : Names X x2 c2) (h3 : Names X x3 c3) : TestOk X (.Tuple [.Name x1 p1, .Name x2 p2, .Name x3 p3] k pos) [c1, c2, c3] := by
  intro a oe pn s σ H cls b Q E E' I LT hx h
  refine wpAny_Tuple_spliced ?_
  refine Calls.spliced_cons (name_here h1 I (Calls.spliced_cons (name_here h2 I (Calls.spliced_cons (name_here h3 I (Calls.spliced_nil ⟨by rw [sizeLine_eq]; show 3 ≤ 16777216; decide, ?_⟩))))))
  have kp : ∀ b o, s.heap.get? b = some o → (s.heap.push { cls := .type "tuple", data := .seq [c1, c2, c3].toArray }).get? b = some o := fun b o e => Heap.get?_push_of_some _ e
  exact (PySem.W.exm_tup3 (M := model X.prog X.w) (I.kIn.keeps kp) (LT.keeps kp) (Heap.get?_push_size s.heap rfl) hx).here (h _ kp)
theorem test_four (h1 : Names X x1 c1) (h2 : Names X x2 c2) (h3 : Names X x3 c3) (h4 : Names X x4 c4) : TestOk X (.Tuple [.Name x1 p1, .Name x2 p2, .Name x3 p3, .Name x4 p4] k pos) [c1, c2, c3, c4] := by
  intro a oe pn s σ H cls b Q E E' I LT hx h
  refine wpAny_Tuple_spliced ?_
  refine Calls.spliced_cons (name_here h1 I (Calls.spliced_cons (name_here h2 I (Calls.spliced_cons (name_here h3 I (Calls.spliced_cons (name_here h4 I (Calls.spliced_nil ⟨by rw [sizeLine_eq]; show 4 ≤ 16777216; decide, ?_⟩))))))))
  have kp : ∀ b o, s.heap.get? b = some o → (s.heap.push { cls := .type "tuple", data := .seq [c1, c2, c3, c4].toArray }).get? b = some o := fun b o e => Heap.get?_push_of_some _ e
  exact (PySem.W.exm_tup4 (M := model X.prog X.w) (I.kIn.keeps kp) (LT.keeps kp) (Heap.get?_push_size s.heap rfl) hx).here (h _ kp)
end

/-- a clause's suite: by the error's place, class, dict -/
abbrev Su := Addr → Value → Option Addr → TS
/-- what the clauses wish of an error; i: the slot of its name -/
def wMa (K : PySem.W.Frag) (Wout : WX) (D : Ends) : List (List Value × Nat × Su) → WX
  | [] => Wout
  | (cs, i, ts) :: r => fun cls d σ H => ∃ b, PySem.W.exmAny K cls cs = some b ∧
      (b = true → ∀ a, H a = none → ts a cls d { nx := fun σ' H' => D.nx (σ'.set i none) H', rt := D.rt, bk := fun σ' H' => D.bk (σ'.set i none) H', ct := fun σ' H' => D.ct (σ'.set i none) H' } (σ.set i (some (.ref a))) H) ∧
      (b = false → wMa K Wout D r cls d σ H)
inductive HdsA (X : Cx) : List ExceptHandler → List (List Value × Nat × Su) → Prop
  | nil : HdsA X [] []
  | cons {te : Expr} {n : Str} {i : Nat} {cs : List Value} {ts : Su} {b₀ : Stmt} {suite : List Stmt} {pos' : Pos} {hds : List ExceptHandler} {l : List (List Value × Nat × Su)} (hc : TestOk X te cs) (hi : X.N[i]? = some n) (hln : X.env.kindOf n = some .local)
      (hsu : ∀ (a : Addr) (oe : Obj) (cls : Value) (d : Option Addr) (pn : List (Addr × Obj)), Zc cls d oe → (∃ vs, oe.data = .fields vs) → PSs (X.suite a ((a, oe) :: pn)) (b₀ :: suite) (ts a cls d)) (r : HdsA X hds l) :
      HdsA X (.ExceptHandler (some te) (some n) (b₀ :: suite) pos' :: hds) ((cs, i, ts) :: l)
/-- an error that this def's frame has in hand: W the state that it left, T the state in which it was met -/
structure Hand (X : Cx) (pn : List (Addr × Obj)) (σ : L2.St) (H : Hp) (G : Heap) (T : Shared) (a : Addr) (cls : Value) (d : Option Addr) : Prop where
  fr : X.A.frames = some (X.env :: X.outer)
  own : X.env.frame = some X.env.locals
  st : X.stack = X.env :: X.outer
  na : H a = none
  left : ∃ W : Shared, Inv X pn σ H W ∧ (∀ b o, W.heap.get? b = some o → b ∉ frs X.stack → G.get? b = some o) ∧ W.heap.UpToSlots T.heap ∧ T.os = W.os ∧ AllBare T.gens
section
variable {X : Cx} {pn : List (Addr × Obj)} {σ : L2.St} {H : Hp} {G h : Heap} {T : Shared} {a : Addr} {cls : Value} {d : Option Addr} {Wout : WX} {D : Ends}
abbrev FlyH (X : Cx) (G : Heap) (a : Addr) (cls : Value) (d : Option Addr) (h : Heap) : Prop := HandSPX.FlyingZ G (X.env :: X.outer) a (Zc cls d) h
theorem Hand.inv (A : Hand X pn σ H G T a cls d) (f : FlyH X G a cls d h) (u : T.heap.UpToSlots h) : Inv X pn σ H { T with heap := h } := by
  obtain ⟨W, iw, ig, iu, io, ib⟩ := A.left
  exact iw.landed ig f.1 (iu.trans u) io ib
theorem Hand.apart (A : Hand X pn σ H G T a cls d) (f : FlyH X G a cls d h) : a ∉ frs (X.env :: X.outer) := by
  intro m
  obtain ⟨_, _, ff, ob, fv, _, _, _, ga, _, fd, _⟩ := f
  obtain ⟨ob2, g2, g3⟩ := (ff.mem m).2
  rw [ga] at g2
  exact g3 fv (by rw [← Option.some.inj g2]; exact fd)
theorem Hand.notOwn (A : Hand X pn σ H G T a cls d) (f : FlyH X G a cls d h) : a ≠ X.env.locals := fun z =>
  A.apart f (by rw [z]; exact List.mem_filterMap.mpr ⟨X.env, List.mem_cons_self, A.own⟩)
theorem Hand.notOut (A : Hand X pn σ H G T a cls d) (f : FlyH X G a cls d h) : a ∉ X.fs := fun z => by
  obtain ⟨v, hv, hw⟩ := List.mem_filterMap.mp z
  exact A.apart f (List.mem_filterMap.mpr ⟨v, List.mem_cons_of_mem _ hv, hw⟩)
theorem Hand.within (A : Hand X pn σ H G T a cls d) (f : FlyH X G a cls d h) (u : T.heap.UpToSlots h) : ∃ ob, Zc cls d ob ∧ (∃ vs, ob.data = .fields vs) ∧ h.get? a = some ob ∧ Inv (X.suite a ((a, ob) :: (X.pn ++ pn))) [] σ H { T with heap := h } := by
  obtain ⟨ob, fv, g, z, fd⟩ := HandSPX.FlyingZ.there f
  exact ⟨ob, z, ⟨fv, fd⟩, g, (A.inv f u).suite g fd A.na (A.notOwn f) (A.notOut f)⟩
/-- no clause takes it: it goes on -/
theorem Hand.pass (A : Hand X pn σ H G T a cls d) (f : FlyH X G a cls d h) (u : T.heap.UpToSlots h) (tk : Takes X Wout) (w : Wout cls d σ H) :
    wpAny (model X.prog X.w) X.A (handleBy (.ref a) X.env []) (SP X pn D) X.xe { T with heap := h } := by
  refine wpAny_handleBy_nil ?_
  have f2 := f
  obtain ⟨_, _, _, ob, fv, tb, _, _, g, _, fd, f1, _⟩ := f2
  unfold PySem.passOn
  refine wpAny_bind (wpAny_field g fd f1 ?_)
  rw [if_neg (by simp : ¬ ((Value.ref tb == Value.none) = true))]
  have go : wpAny (model X.prog X.w) X.A (setFlight (.ref a) X.env.frame) (fun _ S => wpAny (model X.prog X.w) X.A (throw (.ref a) : Sem Flow) (SP X pn D) X.xe S) X.xe { T with heap := h } := by
    rw [A.own]
    refine HandSPX.setFlight_upZ f fun hh held uu => wpAny_throw (tk _ _ ?_)
    obtain ⟨W, iw, ig, iu, io, ib⟩ := A.left
    exact ⟨a, G, W, pn, σ, H, cls, d, rfl, iw, ig, (iu.trans u).trans uu, .inr (.inr (by rw [A.st]; exact held)), A.na, io, ib, w⟩
  first
    | exact wpAny_bind go
    | exact wpAny_bind (wpAny_pure (wpAny_bind go))
/-- the clauses, one after another -/
theorem Hand.meet (A : Hand X pn σ H G T a cls d) (nd : X.N.Nodup) (tk : Takes X Wout) {hs : List ExceptHandler} {l : List (List Value × Nat × Su)} (k : HdsA X hs l) :
    ∀ h : Heap, FlyH X G a cls d h → T.heap.UpToSlots h → wMa X.K Wout D l cls d σ H → wpAny (model X.prog X.w) X.A (handleBy (.ref a) X.env hs) (SP X pn D) X.xe { T with heap := h } := by
  induction k with
  | nil => exact fun h f u w => A.pass f u tk w
  | @cons te n i cs ts first rest cpos more lmore test hi loc body _ ih =>
    rintro h f u ⟨b, eb, yes, no⟩
    obtain ⟨ob, zo, fo, go, S⟩ := A.within f u
    have cl : PySem.W.Looks (model X.prog X.w) h (typeOf (.ref a)) cls := fun _ _ _ _ keep q => wpAny_typeOf_ref (keep _ _ go) (by rw [zo.1]; exact q)
    refine wpAny_handleBy_cons (codeAny_handlers_test (test a ob (X.pn ++ pn) _ σ H cls b _ _ _ S cl eb fun h1 grow => ?_)) (fun z => nomatch z)
    have f1 : FlyH X G a cls d h1 := flying_grow f grow
    have u1 : T.heap.UpToSlots h1 := u.trans (Heap.UpToSlots.of_keeps grow)
    by_cases cb : b = true
    · subst cb
      refine codeAny_handlers_suite_as (HandSPX.lands_againZ f1 fun h2 f2 u2 => ?_)
      obtain ⟨ob2, zo2, fo2, _, S2⟩ := A.within f2 (u1.trans u2)
      refine store_ok (X := X.suite a ((a, ob2) :: (X.pn ++ pn))) (v := .ref a) S2 nd hi (.inl loc) rfl (fun S3 I3 => ?_) (.inr loc)
      have back : ∀ {τ : L2.St} {H9 : Hp} {S9 : Shared} {P : Shared → Prop}, Inv (X.suite a ((a, ob2) :: (X.pn ++ pn))) [] τ H9 S9 → (∀ S8, Inv X pn (τ.set i none) H9 S8 → P S8) →
          wpAny (model X.prog X.w) X.A (do bindName X.env n .none; unbindBehindTheSuite X.env n cpos) (fun _ S8 => P S8) X.xe S9 := fun I9 p => gone_ok (I9.unsuite (A.inv f u).ok) nd hi loc p
      refine wpAny_mono ((body a ob2 cls d (X.pn ++ pn) zo2 fo2).run [] S3 _ H _ I3 (yes rfl a A.na)) (fun fl S9 r => ?_) (fun _ _ z => z.elim)
      cases fl with
      | next => obtain ⟨τ, H9, I9, q⟩ := r; exact back I9 fun _ J => ⟨_, _, J, q⟩
      | brk => obtain ⟨τ, H9, I9, q⟩ := r; exact back I9 fun _ J => ⟨_, _, J, q⟩
      | cont => obtain ⟨τ, H9, I9, q⟩ := r; exact back I9 fun _ J => ⟨_, _, J, q⟩
      | ret w => obtain ⟨v, τ, H9, I9, rv, q⟩ := r; exact back I9 fun _ J => ⟨_, _, _, J, rv, q⟩
    · have cb : b = false := by simpa using cb
      subst cb
      exact ih h1 f1 u1 (no rfl)
end
section
variable {X : Cx} {body : List Stmt} {c₀ : ExceptHandler} {cs : List ExceptHandler} {l : List (List Value × Nat × Su)} {pos : Pos} {tb : WX → TS} {Wout : WX}
theorem ps_try_ma (st : X.stack = X.env :: X.outer) (own : X.env.frame = some X.env.locals) (nd : X.N.Nodup) (tk : Takes X Wout)
    (hb : ∀ (W : WX) (pn : List (Addr × Obj)) (xe : Value → Shared → Prop), Takes (X.tr pn xe) W → PassesOwn (model X.prog X.w) X.A X.env xe → PSs (X.tr pn xe) body (tb W))
    (hh : HdsA X (c₀ :: cs) l) : PS X (.Try body (c₀ :: cs) [] [] pos) (fun D σ H => tb (wMa X.K Wout D l) D σ H) := by
  refine ⟨fun pn S σ H D I h => wpAny_Try_except ?_⟩
  have fr : X.A.frames = some (X.env :: X.outer) := I.ok.frames.trans (by rw [st])
  have inside := (hb (wMa X.K Wout D l) (X.pn ++ pn) (fun u T => wpAny (model X.prog X.w) X.A (noteFrame u X.env) (fun _ T2 => wpAny (model X.prog X.w) X.A (setFlight u none)
    (fun _ T3 => wpAny (model X.prog X.w) X.A (handleBy u X.env (c₀ :: cs)) (SP X pn D) X.xe T3) X.xe T2) X.xe T) ?taken PassesOwn.looking).run [] S σ H D (I.toTry _) h
  case taken =>
    rintro u T ⟨a, G, W, pins, τ, Hτ, cls, d, rfl, iw, ig, iu, sky, na, io, ib, w⟩
    have A : Hand X pn τ Hτ G T a cls d := ⟨fr, own, st, na, W, iw.ofTry I.ok, ig, iu, io, ib⟩
    exact Sky.land Zc.steady fr own (st ▸ sky) fun h3 f3 u3 => A.meet nd tk hh h3 f3 u3 w
  refine wpAny_mono inside (fun fl T r => ?_) (fun _ _ z => z)
  cases fl with
  | next => obtain ⟨τ, Hτ, J, q⟩ := r; exact wpAny_execs_nil ⟨τ, Hτ, J.ofTry I.ok, q⟩
  | brk => obtain ⟨τ, Hτ, J, q⟩ := r; exact ⟨τ, Hτ, J.ofTry I.ok, q⟩
  | cont => obtain ⟨τ, Hτ, J, q⟩ := r; exact ⟨τ, Hτ, J.ofTry I.ok, q⟩
  | ret u => obtain ⟨v, τ, Hτ, J, rv, q⟩ := r; exact ⟨v, τ, Hτ, J.ofTry I.ok, rv, q⟩
end
end EL

namespace EL
open PySem PySem.Spec PyProof.Rows L2 LamX

/-- e.f in a suite, whatever the error's class -/
def tXfA (K : PySem.W.Frag) (a : Addr) (cls : Value) (d : Option Addr) (f : Str) (te : TE) : TE := fun σ H Q => te σ H fun x H1 => x = .ref a ∧ ∃ (C dd : Addr) (fs : List (Str × V)) (v : V), cls = .ref C ∧ XfC K C ∧ PySem.W.findIn K (.ref C) f = some none ∧ d = some dd ∧ H1 dd = some (.xd fs) ∧ fs.lookup f = some v ∧ Q v H1
theorem pe_xfA {X : Cx} {a : Addr} {oe : Obj} {cls : Value} {d : Option Addr} {pn : List (Addr × Obj)} {e : Expr} {te : TE} {pos : Pos} {n : Str}
    (hz : Zc cls d oe) (hf : ∃ vs, oe.data = .fields vs) (he : PE (X.suite a ((a, oe) :: pn)) e te) (hb : attributeBase e n X.env (eval e X.env) = eval e X.env := by rfl) :
    PE (X.suite a ((a, oe) :: pn)) (.Attribute e n pos) (tXfA X.K a cls d n te) := by
  by_cases z : ∃ C : Addr, cls = .ref C ∧ XfC X.K C ∧ PySem.W.findIn X.K (.ref C) n = some none
  · obtain ⟨C, ec, T, no⟩ := z
    refine ⟨fun pins s σ H Q I h => (pe_xf T no hz hf he hb).run pins s σ H Q I ?_⟩
    have same : (fun (x : V) (H1 : Hp) => x = .ref a ∧ ∃ (C dd : Addr) (fs : List (Str × V)) (v : V), cls = .ref C ∧ XfC X.K C ∧ PySem.W.findIn X.K (.ref C) n = some none ∧ d = some dd ∧ H1 dd = some (.xd fs) ∧ fs.lookup n = some v ∧ Q v H1) =
        fun x H1 => x = .ref a ∧ cls = .ref C ∧ ∃ (dd : Addr) (fs : List (Str × V)) (v : V), d = some dd ∧ H1 dd = some (.xd fs) ∧ fs.lookup n = some v ∧ Q v H1 := by
      funext x H1
      refine propext ⟨fun ⟨ex, _, dd, fs, v, _, _, _, r⟩ => ⟨ex, ec, dd, fs, v, r⟩, fun ⟨ex, _, dd, fs, v, r⟩ => ⟨ex, C, dd, fs, v, ec, T, no, r⟩⟩
    unfold tXfA at h
    rw [same] at h
    exact h
  · refine ⟨fun pins s σ H Q I h => ?_⟩
    have none_ : (fun (x : V) (H1 : Hp) => x = .ref a ∧ ∃ (C dd : Addr) (fs : List (Str × V)) (v : V), cls = .ref C ∧ XfC X.K C ∧ PySem.W.findIn X.K (.ref C) n = some none ∧ d = some dd ∧ H1 dd = some (.xd fs) ∧ fs.lookup n = some v ∧ Q v H1) = fun _ _ => False := by
      funext x H1
      exact propext ⟨fun ⟨_, C, _, _, _, ec, T, no, _⟩ => z ⟨C, ec, T, no⟩, False.elim⟩
    unfold tXfA at h
    rw [none_] at h
    exact attr_of hb (thn (he.run pins s σ H _ I h) fun _ _ ⟨_, _, _, _, q⟩ => q.elim)

/-- what a clause answers beside the word -/
inductive EK where
  | one (f : Str) | two (f g : Str) | zero
/-- the clause that takes an error of the class -/
def pick (K : PySem.W.Frag) (cls : Value) : List (List Value × EK) → EK → Prop
  | [], _ => False
  | (cs, k) :: r, k' => ∃ b, PySem.W.exmAny K cls cs = some b ∧ (b = true → k = k') ∧ (b = false → pick K cls r k')
def suE (K : PySem.W.Frag) (k : EK) (a : Addr) (cls : Value) (d : Option Addr) : TA := match k with
  | .one f => tCons (tXfA K a cls d "word" (tVar 1)) (tCons (tXfA K a cls d f (tVar 1)) tNil)
  | .two f g => tCons (tXfA K a cls d "word" (tVar 1)) (tCons (tTup (tCons (tXfA K a cls d f (tVar 1)) (tCons (tXfA K a cls d g (tVar 1)) tNil))) tNil)
  | .zero => tCons (tXfA K a cls d "word" (tVar 1)) (tCons (tC .non) tNil)
def su (K : PySem.W.Frag) (k : EK) : Su := fun a cls d => tRet (tTup (suE K k a cls d))
/-- the field's fact -/
def FldOk (K : PySem.W.Frag) (C : Addr) (fs : List (Str × V)) (f : Str) (v : V) : Prop := PySem.W.findIn K (.ref C) f = some none ∧ fs.lookup f = some v
def finE (K : PySem.W.Frag) (C : Addr) (fs : List (Str × V)) (w : V) (H : Hp) (Q : VK) : EK → Prop
  | .one f => ∃ v, FldOk K C fs f v ∧ ∀ p, H p = none → Q (.ref p) (upd H p (.tup [w, v]))
  | .two f g => ∃ v u, FldOk K C fs f v ∧ FldOk K C fs g u ∧ ∀ p1, H p1 = none → ∀ p, (upd H p1 (.tup [v, u])) p = none → Q (.ref p) (upd (upd H p1 (.tup [v, u])) p (.tup [w, .ref p1]))
  | .zero => ∀ p, H p = none → Q (.ref p) (upd H p (.tup [w, .non]))
def errW (K : PySem.W.Frag) (l : List (List Value × EK)) (Q : VK) : XK := fun cls d H => ∃ (C dd : Addr) (fs : List (Str × V)) (w : V) (k : EK), cls = .ref C ∧ d = some dd ∧ H dd = some (.xd fs) ∧ XfC K C ∧ FldOk K C fs "word" w ∧ pick K cls l k ∧ finE K C fs w H Q k
theorem err_ma {K : PySem.W.Frag} {Wout : WX} {D : Ends} {Q : VK} (hQ : D.rt = Q) {cls : Value} {d : Option Addr} {σ : L2.St} {H : Hp} (hσ : 1 < σ.length) :
    ∀ (l : List (List Value × EK)), errW K l Q cls d H → wMa K Wout D (l.map fun q => (q.1, 1, su K q.2)) cls d σ H := by
  intro l ⟨C, dd, fs, w, k, ec, ed, hd, XC, hw, hp, hfin⟩
  induction l with
  | nil => exact False.elim hp
  | cons q r ih =>
    obtain ⟨cs, k0⟩ := q
    obtain ⟨b, e1, e2, e3⟩ := hp
    refine ⟨b, e1, fun hb a ha => ?_, fun hb => ih (e3 hb)⟩
    obtain rfl := e2 hb
    subst ec
    subst ed
    have s1 : (σ.set 1 (some (V.ref a)))[1]? = some (some (V.ref a)) := List.getElem?_set_self hσ
    have lz : (2 : Nat) ≤ sizeLine := by rw [sizeLine_eq]; decide
    cases k0 with
    | one f =>
      obtain ⟨v, hv, hq⟩ := hfin
      refine ⟨.ref a, s1, rfl, C, dd, fs, w, rfl, XC, hw.1, rfl, hd, hw.2, .ref a, s1, rfl, C, dd, fs, v, rfl, XC, hv.1, rfl, hd, hv.2, lz, fun p np => ?_⟩
      show D.rt _ _
      rw [hQ]
      exact hq p np
    | two f g =>
      obtain ⟨v, u, hv, hu, hq⟩ := hfin
      refine ⟨.ref a, s1, rfl, C, dd, fs, w, rfl, XC, hw.1, rfl, hd, hw.2, .ref a, s1, rfl, C, dd, fs, v, rfl, XC, hv.1, rfl, hd, hv.2, .ref a, s1, rfl, C, dd, fs, u, rfl, XC, hu.1, rfl, hd, hu.2, lz, fun p1 np1 => ⟨lz, fun p np => ?_⟩⟩
      show D.rt _ _
      rw [hQ]
      exact hq p1 np1 p np
    | zero =>
      refine ⟨.ref a, s1, rfl, C, dd, fs, w, rfl, XC, hw.1, rfl, hd, hw.2, lz, fun p np => ?_⟩
      show D.rt _ _
      rw [hQ]
      exact hfin p np
section
variable {X : Cx} {a : Addr} {oe : Obj} {cls : Value} {d : Option Addr} {pn : List (Addr × Obj)} {f g : Str} {p1 p2 p3 p4 p5 p6 p7 p8 p9 : Pos} {k k2 : Nat}
theorem su_one (hz : Zc cls d oe) (hf : ∃ vs, oe.data = .fields vs) (hv : PE (X.suite a ((a, oe) :: pn)) (.Name "e" p1) (tVar 1)) (hv2 : PE (X.suite a ((a, oe) :: pn)) (.Name "e" p3) (tVar 1))
    (hb : attributeBase (.Name "e" p1) "word" X.env (eval (.Name "e" p1) X.env) = eval (.Name "e" p1) X.env := by rfl) (hb2 : attributeBase (.Name "e" p3) f X.env (eval (.Name "e" p3) X.env) = eval (.Name "e" p3) X.env := by rfl) :
    PSs (X.suite a ((a, oe) :: pn)) [.Return (some (.Tuple [.Attribute (.Name "e" p1) "word" p2, .Attribute (.Name "e" p3) f p4] k p5)) p6] (su X.K (.one f) a cls d) :=
  pss_one (ps_ret (pe_tup (pa_cons (pe_xfA hz hf hv hb) (pa_cons (pe_xfA hz hf hv2 hb2) pa_nil))))
theorem su_two (hz : Zc cls d oe) (hf : ∃ vs, oe.data = .fields vs) (hv : PE (X.suite a ((a, oe) :: pn)) (.Name "e" p1) (tVar 1)) (hv2 : PE (X.suite a ((a, oe) :: pn)) (.Name "e" p3) (tVar 1)) (hv3 : PE (X.suite a ((a, oe) :: pn)) (.Name "e" p7) (tVar 1))
    (hb : attributeBase (.Name "e" p1) "word" X.env (eval (.Name "e" p1) X.env) = eval (.Name "e" p1) X.env := by rfl) (hb2 : attributeBase (.Name "e" p3) f X.env (eval (.Name "e" p3) X.env) = eval (.Name "e" p3) X.env := by rfl)
    (hb3 : attributeBase (.Name "e" p7) g X.env (eval (.Name "e" p7) X.env) = eval (.Name "e" p7) X.env := by rfl) :
    PSs (X.suite a ((a, oe) :: pn)) [.Return (some (.Tuple [.Attribute (.Name "e" p1) "word" p2, .Tuple [.Attribute (.Name "e" p3) f p4, .Attribute (.Name "e" p7) g p8] k2 p9] k p5)) p6] (su X.K (.two f g) a cls d) :=
  pss_one (ps_ret (pe_tup (pa_cons (pe_xfA hz hf hv hb) (pa_cons (pe_tup (pa_cons (pe_xfA hz hf hv2 hb2) (pa_cons (pe_xfA hz hf hv3 hb3) pa_nil))) pa_nil))))
theorem su_zero (hz : Zc cls d oe) (hf : ∃ vs, oe.data = .fields vs) (hv : PE (X.suite a ((a, oe) :: pn)) (.Name "e" p1) (tVar 1))
    (hb : attributeBase (.Name "e" p1) "word" X.env (eval (.Name "e" p1) X.env) = eval (.Name "e" p1) X.env := by rfl) :
    PSs (X.suite a ((a, oe) :: pn)) [.Return (some (.Tuple [.Attribute (.Name "e" p1) "word" p2, .Constant .none k2 p4] k p5)) p6] (su X.K .zero a cls d) :=
  pss_one (ps_ret (pe_tup (pa_cons (pe_xfA hz hf hv hb) (pa_cons pe_non pa_nil))))
end
/-- ('', ask()) or the error's answer -/
def TTry (K : PySem.W.Frag) (l : List (List Value × EK)) : (XK → Hp → VK → Prop) → Hp → VK → Prop := fun tl H Q => tl (errW K l Q) H fun v H' => [V.str "", v].length ≤ sizeLine ∧ ∀ p, H' p = none → Q (.ref p) (upd H' p (.tup [.str "", v]))
theorem try_gives {X : Cx} {x q : Str} {sg : Scope} {g : Addr} {cdg : Value} {l : List (List Value × EK)} {h₀ : ExceptHandler} {hds : List ExceptHandler} {k j : Nat} {p1 p2 p3 p4 p5 p6 : Pos}
    (Sg : FnScope ["_law_ask", "e"] ["_law_ask"] sg)
    (hh : ∀ (s : Shared) (H : Hp), HdsA (cxOf C8.CX0 X.prog X.w X.K X.mg X.base ["_law_ask", "e"] x sg g cdg X.A X.stack s H C8.E0).nox (h₀ :: hds) (l.map fun q => (q.1, 1, su X.K q.2))) :
    GivesTo X ["_law_ask", "e"] x sg g cdg [.Try [.Return (some (.Tuple [.Constant (.str "") j p1, .Call (.Name "_law_ask" p2) [] [] p3] k p4)) p5] (h₀ :: hds) [] [] p6] "_law_ask" q (TTry X.K l) := by
  intro f c' s H Q tl act hc h
  refine ⟨_, pss_one (ps_try_ma (X := (cxOf C8.CX0 X.prog X.w X.K X.mg X.base ["_law_ask", "e"] x sg g cdg X.A X.stack s H C8.E0).nox)
      (tb := fun W D σ H => ∃ Ech : XK, (∀ cls d σ' H', 1 < σ'.length → Ech cls d H' → W cls d σ' H') ∧ σ[0]? = some (some (.ref f)) ∧ H c' = some (CodeO c' q) ∧ tl Ech H fun v H' => [V.str "", v].length ≤ sizeLine ∧ ∀ p, H' p = none → D.rt (.ref p) (upd H' p (.tup [.str "", v])))
      rfl rfl Sg.nd L2.takes0 (fun W pn xe tk _ => ?_) (hh s H)), ?_⟩
  · refine ⟨fun pins s' σ H' D I h' => ?_⟩
    obtain ⟨Ech, hW, h1, h2, h3⟩ := h'
    have hl : ∀ σ' : L2.St, σ'.length = σ.length → 1 < σ'.length := fun σ' e => by
      have z := I.len
      have z2 : σ.length = 2 := z
      omega
    have tk' : Takes ((cxOf C8.CX0 X.prog X.w X.K X.mg X.base ["_law_ask", "e"] x sg g cdg X.A X.stack s H C8.E0).tr pn xe) fun cls d σ' H' => Ech cls d H' := fun u s' ⟨a, B, sI, pins, σ, H, cls, d, e, I, nb, up, sky, na, os, ag, w⟩ =>
      tk u s' ⟨a, B, sI, pins, σ, H, cls, d, e, I, nb, up, sky, na, os, ag, hW _ _ _ _ (by have z := I.len; have z2 : σ.length = 2 := z; omega) w⟩
    have hp := act (fun cls d σ' H' => Ech cls d H') pn xe Ech p2 p3 tk' (fun _ _ _ _ z => z)
    have hq := pss_one (ps_ret (pos := p5) (pe_tup (x1 := k) (pos := p4) (pa_cons (pe_str (x := "") (j := j) (pos := p1)) (pa_cons hp pa_nil))))
    refine hq.run pins s' σ H' D I ?_
    exact ⟨h1, h2, h3⟩
  · exact ⟨errW X.K l Q, fun cls d σ' H' hσ e => err_ma (D := { nx := fun _ H' => Q .non H', rt := Q }) rfl hσ l e, rfl, hc, h⟩
end EL

namespace EX
open PySem PySem.W PySem.Calls PyProof.Rows PySem.HandSPX
/-- an mro that lets a field be stored -/
structure MroOk (l : List Value) : Prop where
  ne : l.isEmpty = false
  ob : l.contains (.type "object") = true
  ps : ∀ self : Value, refuseLoop self "__setattr__" l = pure ()
abbrev leTail : List Value := [.type "LookupError", .type "Exception", .type "BaseException", .type "object"]
/-- classes of the program's own, then LookupError's mro -/
def refsLE : List Value → Bool
  | .ref _ :: r => refsLE r
  | l => decide (l = leTail)
theorem refsLE_two : ∀ {l : List Value}, refsLE l = true → (∃ c r, l = .ref c :: r ∧ refsLE r = true) ∨ l = leTail := by
  intro l h
  unfold refsLE at h
  split at h
  next c r => exact .inl ⟨c, r, rfl, h⟩
  next => exact .inr (of_decide_eq_true h)
theorem refsLE_has (Y : String) : ∀ {l : List Value}, refsLE l = true → l.contains (.type Y) = leTail.contains (.type Y)
  | [], h => absurd h (by decide)
  | x :: r, h => by
    rcases refsLE_two h with ⟨c, r', e, k⟩ | e
    · cases e; rw [List.contains_cons, refsLE_has Y k]; rfl
    · rw [e]
theorem mroOk_LE : ∀ {l : List Value}, refsLE l = true → MroOk l
  | [], h => absurd h (by decide)
  | x :: r, h => by
    rcases refsLE_two h with ⟨c, r', e, k⟩ | e
    · cases e
      have ih := mroOk_LE k
      exact ⟨rfl, by rw [List.contains_cons, ih.ob, Bool.or_true], fun self => (refuseLoop_ref self "__setattr__" c r).trans (ih.ps self)⟩
    · rw [e]; exact ⟨rfl, by decide +kernel, fun self => PySem.F.store_LookupError.passes self⟩
theorem mroOk_VE {l : List Value} (h : refsVE l = true) : MroOk l := ⟨refsVE_ne h, (refsVE_contains "object" l h).trans (by decide +kernel), fun self => refsVE_pass self l h⟩

section
open Builtin Builtin.ObjectAttr
variable {prog : Program} {w : World} {A : Around} {R : Result → Shared → Prop} {hp : Heap} {g : Array GenState} {d : Drawn} {t : Nat} {os : OsState}
variable {K : W.Frag} {nm : Str} {tk : Tok} {v : Value} {x C : Addr} {fv : Array Value} {cd : ClassData}
/-- object.__setattr__ of such an object, up to its own dict -/
theorem store_at {dct : Option Addr} {od : Option Obj} (X : K.In hp) (I : W.InstAt hp x { cls := .ref C, dict := dct, data := .fields fv } C od) (hc : W.clsIn K C = some cd) (M : MroOk cd.mro) (hf : W.findIn K (.ref C) nm = some none)
    (h : wpAny (model prog w) A.in1 (storeInOwnDict (.ref x) (.ref C) (.str nm tk) nm v false) (fun z s' => match z with | .done y => R (.ok y) s' | .again p => p.quiet = true ∧ codeAny (model prog w) A p R s') (fun e s' => R (.error e) s') ⟨hp, g, d, t, os⟩) :
    codeAny (model prog w) A (.call (.builtin "object.__setattr__") ⟨[.ref x, .str nm tk, v], []⟩) R ⟨hp, g, d, t, os⟩ := by
  have F := PySem.F.store_object
  have inst : W.Looks (model prog w) hp (isInstance (.ref x) (.type "object")) true :=
    I.type.andThen (W.looks_mroIn X (by unfold W.mroIn; rw [hc, Option.bind_some, if_neg (by rw [M.ne]; decide), M.ob]))
  have chain : W.Looks (model prog w) hp (mroOf (.ref C)) cd.mro := (W.looks_clsIn X hc).andThen .now
  have noTaker : W.Looks (model prog w) hp (storeTaker? none) none := .now
  refine codeAny_call_builtin F.slot.plain F.entry (@W.check_slot (model prog w) _ _ ⟨hp, g, d, t, os⟩ "object.__setattr__" "object" "__setattr__" (.ref x) [.str nm tk, v] [] _ F.kind F.split inst (F.args (.ref x) (.str nm tk) v) ?_)
  rw [W.osa_eq, refuse_eq]
  refine wpAny_bind (wpAny_bind (I.type.at (wpAny_bind (chain.at ?_))))
  rw [M.ps]
  exact wpAny_pure (wpAny_bind (I.type.at (wpAny_bind ((W.looks_findIn X hf).at (wpAny_bind (noTaker.at h))))))
/-- the first field: the object's dict is new -/
theorem store_first (X : K.In hp) (hx : hp.get? x = some { cls := .ref C, data := .fields fv }) (hc : W.clsIn K C = some cd) (M : MroOk cd.mro) (hh : cd.hasDict = true) (hf : W.findIn K (.ref C) nm = some none)
    (hq : ∀ (h1 : Heap) (t1 : Nat) (dx : Addr), (∀ b o, b ≠ x → hp.get? b = some o → h1.get? b = some o) → hp.objs.size ≤ dx → dx ≠ x → h1.get? x = some { cls := .ref C, dict := some dx, data := .fields fv } →
      h1.Ns1 dx (fun y => if y = nm then some v else none) → R (.ok (.ret .none)) ⟨h1, g, d, t1, os⟩) :
    codeAny (model prog w) A (.call (.builtin "object.__setattr__") ⟨[.ref x, .str nm tk, v], []⟩) R ⟨hp, g, d, t, os⟩ := by
  have apart : x ≠ hp.objs.size := Nat.ne_of_lt (Heap.lt_size hx)
  refine store_at (od := none) X ⟨hx, rfl, rfl, trivial⟩ hc M hf ?_
  have cls : W.Looks (model prog w) hp (classData C) cd := W.looks_clsIn X hc
  obtain ⟨a1, a2, a3, a4, a5, hd, a6, a7, a8, a9, a10⟩ := cd
  have hd1 : hd = true := hh
  subst hd1
  unfold storeInOwnDict ownDictForStores
  repeat (first | with_reducible refine store_in_new ?_ ?_ | with_reducible refine wpAny_loadPart_at hx ?_ | with_reducible refine cls.at ?_ | wp_step)
  · exact ⟨_, #[], _, (Heap.get?_update_ne _ _ _ _ apart.symm).trans (Heap.get?_push_at rfl rfl), rfl, fun e he => absurd he (by simp), fun _ => rfl⟩
  · intro h1 t1 hn hs
    have at_x : (hp.push { cls := .type "dict", data := .dict #[] }).get? x = some { cls := .ref C, data := .fields fv } := Heap.get?_push_of_some _ hx
    refine hq h1 t1 hp.objs.size (fun b o hb ho => ?_) (Nat.le_refl _) apart.symm ((hs.2 x apart).trans (Heap.get?_update_self _ at_x rfl)) hn
    exact (hs.2 b (Nat.ne_of_lt (Heap.lt_size ho))).trans ((Heap.get?_update_ne _ _ _ _ hb).trans (Heap.get?_push_of_some _ ho))
/-- a further field -/
theorem store_more {dx : Addr} {m0 : Str → Option Value} {nl : List Str} (X : K.In hp) (hx : hp.get? x = some { cls := .ref C, dict := some dx, data := .fields fv }) (ns : hp.Ns1 dx m0) (hw : Within m0 nl) (hz : nl.length ≤ 1000) (hc : W.clsIn K C = some cd) (M : MroOk cd.mro) (hh : cd.hasDict = true)
    (hf : W.findIn K (.ref C) nm = some none) (hq : ∀ (h1 : Heap) (t1 : Nat), (∀ b o, b ≠ dx → hp.get? b = some o → h1.get? b = some o) → h1.Ns1 dx (fun y => if y = nm then some v else m0 y) → R (.ok (.ret .none)) ⟨h1, g, d, t1, os⟩) :
    codeAny (model prog w) A (.call (.builtin "object.__setattr__") ⟨[.ref x, .str nm tk, v], []⟩) R ⟨hp, g, d, t, os⟩ := by
  obtain ⟨oD, _, _, atD, _, _⟩ := ns.count hw
  refine store_at (od := some oD) X ⟨hx, rfl, rfl, atD⟩ hc M hf ?_
  have cls : W.Looks (model prog w) hp (classData C) cd := W.looks_clsIn X hc
  obtain ⟨a1, a2, a3, a4, a5, hd, a6, a7, a8, a9, a10⟩ := cd
  have hd1 : hd = true := hh
  subst hd1
  unfold storeInOwnDict ownDictForStores
  repeat (first | with_reducible refine OEX.store_in_old ns hw hz ?_ | with_reducible refine wpAny_loadPart_at hx ?_ | with_reducible refine cls.at ?_ | wp_step)
  intro h1 t1 hn hs
  exact hq h1 t1 (fun b o hb ho => (hs.2 b hb).trans ho) hn
end
end EX
namespace L2
open PySem PySem.Spec PyProof.Rows EX
/-- what the written part says of an error class of one's own -/
structure OexA (K : PySem.W.Frag) (C : Addr) : Prop where
  cls : ∃ (B newId initId : String) (bmB : List Value) (nm q : Str) (N : Addr) (bs bm : List Value) (sn : List Str) (sub : List Value) (ab : Bool) (col : Option Bool) (dd : Option Addr) (k0 k1 k2 k3 k5 : Option Value),
    K.lookup C = some (excClassObj nm q C N bs bm true sn sub ab col dd k0 k1 k2 k3 k5 newId) ∧ ExcBaseFacts B newId initId bmB ∧ (∀ Y : String, bm.contains (.type Y) = bmB.contains (.type Y)) ∧ MroOk (.ref C :: bm)
  sa : PySem.W.findIn K (.ref C) "__setattr__" = some (some (.builtin "object.__setattr__"))
  exC : PySem.W.subIn K (.ref C) (.type "BaseException") = some true
  tyC : PySem.W.typeIn K (.ref C) = some (.type "type")
  kC : PySem.W.keepIn K (.ref C) = true
theorem OexC.a {K : PySem.W.Frag} {C : Addr} (T : OexC K C) : OexA K C := by
  obtain ⟨nm, q, N, bs, bm, sn, sub, ab, col, dd, k0, k1, k2, k3, k5, h, m⟩ := T.cls
  exact ⟨⟨_, _, _, _, nm, q, N, bs, bm, sn, sub, ab, col, dd, k0, k1, k2, k3, k5, h, F.excBase_ValueError, fun Y => PySem.HandSPX.refsVE_contains Y bm m, mroOk_VE (show PySem.HandSPX.refsVE (.ref C :: bm) = true from m)⟩, T.sa, T.exC, T.tyC, T.kC⟩
theorem oexL {K : PySem.W.Frag} {C : Addr} (cls : ∃ nm q N bs bm sn sub ab col dd k0 k1 k2 k3 k5, K.lookup C = some (excClassObj nm q C N bs bm true sn sub ab col dd k0 k1 k2 k3 k5 "LookupError.__new__") ∧ refsLE bm = true)
    (sa : PySem.W.findIn K (.ref C) "__setattr__" = some (some (.builtin "object.__setattr__"))) (exC : PySem.W.subIn K (.ref C) (.type "BaseException") = some true) (tyC : PySem.W.typeIn K (.ref C) = some (.type "type")) (kC : PySem.W.keepIn K (.ref C) = true) : OexA K C := by
  obtain ⟨nm, q, N, bs, bm, sn, sub, ab, col, dd, k0, k1, k2, k3, k5, h, m⟩ := cls
  exact ⟨⟨_, _, _, _, nm, q, N, bs, bm, sn, sub, ab, col, dd, k0, k1, k2, k3, k5, h, F.excBase_LookupError, fun Y => refsLE_has Y m, mroOk_LE (show refsLE (.ref C :: bm) = true from m)⟩, sa, exC, tyC, kC⟩
section
variable {X : Cx} {pins : List (Addr × Obj)} {σ : St} {H : Hp} {s : Shared} {a C dx : Addr} {f : Str} {y : V} {u : Value} {fs : List (Str × V)} {Q : Unit → Shared → Prop} {E : Value → Shared → Prop} {A : Around}
theorem OexA.data {K : PySem.W.Frag} (T : OexA K C) : ∃ cd : ClassData, PySem.W.clsIn K C = some cd ∧ MroOk cd.mro ∧ cd.hasDict = true := by
  obtain ⟨_, _, _, _, nm, q, N, bs, bm, sn, sub, ab, col, dd, k0, k1, k2, k3, k5, h, _, _, m⟩ := T.cls
  exact ⟨{ name := nm, bases := bs, mro := .ref C :: bm, ns := N, qualname := q, hasDict := true, slotNames := sn, subclasses := sub, abstract := ab, collection := col, hasDel := false }, by unfold PySem.W.clsIn; rw [h] <;> rfl, m, rfl⟩
/-- a.f = y: the first field -/
theorem keep_first (T : OexA X.K C) (I : Inv X pins σ H s) (e : H a = some (exo a C none)) (no : PySem.W.findIn X.K (.ref C) f = some none) (ry : RelV y u)
    (h : ∀ dx s', H dx = none → dx ≠ a → Inv X pins σ (upd (upd H dx (exd dx [(f, y)])) a (exo a C (some dx))) s' → Q () s') : wpAny (model X.prog X.w) A (setAttr (.ref a) f u) Q E s := by
  obtain ⟨cd, hc, M, hd⟩ := T.data
  obtain ⟨t1, ho⟩ := exo_at I.hok e
  obtain ⟨hp, g1, d1, k1, os1⟩ := s
  refine PySem.W.set_plain I.kIn (ox := { cls := .ref C, dict := none, data := .fields #[.ref t1, .none, .none, .none, .bool false, .none] }) (od := none) ⟨ho, rfl, rfl, trivial⟩ T.sa (store_first I.kIn ho hc M hd no fun h1 tk1 dx k dn dne hx hn => ?_)
  have hnd : H dx = none := I.hok.fresh dn
  have far : ∀ {b : Addr} {o : Obj}, hp.get? b = some o → b ≠ dx := fun {b o} q => Nat.ne_of_lt (Nat.lt_of_lt_of_le (Heap.lt_size q) dn)
  have off : ∀ {b : Addr}, H b = none → b ≠ a := fun {b} n z => by rw [z, e] at n; cases n
  have un : Un X.fs [] H (upd (upd H dx (exd dx [(f, y)])) a (exo a C (some dx))) hp h1 :=
    { keep := fun b o q n _ _ => k b o (off n) q, slot := fun b o q n _ _ => ⟨o.slots, k b o (off n) q⟩, free := fun b o q n _ => by rw [upd_ne (off n), upd_ne (far q)]; exact n
      there := fun b o q _ => by
        by_cases hb : b = a
        · exact ⟨_, hb ▸ hx⟩
        · exact ⟨o, k b o hb q⟩
      tups := fun b xs q => (upd_ne (at_ne e q exo_tup)).trans ((upd_ne (ne_of_none q hnd)).trans q)
      frzs := fun b o v q => (upd_ne (at_ne e q exo_frz)).trans ((upd_ne (ne_of_none q hnd)).trans q)
      tbls := fun b ps q => ⟨#[], by rw [upd_ne (at_ne e q exo_tbl), upd_ne (ne_of_none q hnd), q]; simp⟩ }
  refine h dx _ hnd dne (I.un (t' := tk1) un fun b o q => ?_)
  by_cases hb : b = a
  · subst hb; rw [upd_same] at q; cases q; exact exo_ok hx
  · rw [upd_ne hb] at q
    by_cases hdx : b = dx
    · subst hdx; rw [upd_same] at q; cases q; exact exd_ok hn (relO_put (fs := []) ry fun _ => True.intro)
    · rw [upd_ne hdx] at q
      refine (I.hok b o q).stay (fun c v hc z => k c v ?_ z) (fun c hc => (upd_ne (at_ne e hc exo_own)).trans ((upd_ne (ne_of_none hc hnd)).trans hc)) (fun c xs hc => (upd_ne (at_ne e hc exo_tup)).trans ((upd_ne (ne_of_none hc hnd)).trans hc))
      rcases hc with hc | hc
      · rw [hc]; exact hb
      · exact at_ne e hc exo_own
/-- a.f = y: a further one -/
theorem keep_more (T : OexA X.K C) (I : Inv X pins σ H s) (e : H a = some (exo a C (some dx))) (ed : H dx = some (exd dx fs)) (hl : fs.length ≤ 900) (no : PySem.W.findIn X.K (.ref C) f = some none) (ry : RelV y u)
    (h : ∀ s', Inv X pins σ (upd H dx (exd dx ((f, y) :: fs))) s' → Q () s') : wpAny (model X.prog X.w) A (setAttr (.ref a) f u) Q E s := by
  obtain ⟨cd, hc, M, hd⟩ := T.data
  obtain ⟨t1, ho⟩ := exo_at I.hok e
  obtain ⟨mA, ns, rel⟩ := exd_at I.hok ed
  have wi := within_of rel
  obtain ⟨hp, g1, d1, k1, os1⟩ := s
  obtain ⟨oD, _, _, atD, _, _⟩ := ns.count wi
  refine PySem.W.set_plain I.kIn (ox := { cls := .ref C, dict := some dx, data := .fields #[.ref t1, .none, .none, .none, .bool false, .none] }) (od := some oD) ⟨ho, rfl, rfl, atD⟩ T.sa (store_more I.kIn ho ns wi (by rw [List.length_map]; omega) hc M hd no fun h1 tk1 k hn => ?_)
  have there : ∃ o, h1.get? dx = some o := let ⟨o, _, _, e', _⟩ := hn; ⟨o, e'⟩
  exact h _ (I.write (t' := tk1) (x := dx) (e := dx) (o := exd dx ((f, y) :: fs)) (by rw [ed]; exact True.intro) (.inl rfl) k there (exd_ok hn (relO_put ry rel)))
/-- the reading of self.f = e -/
def tKeep (K : PySem.W.Frag) (f : Str) (to te : TE) : TS := fun D σ H => te σ H fun y H1 => to σ H1 fun x H2 => ∃ a C : Addr, x = .ref a ∧ OexA K C ∧ PySem.W.findIn K (.ref C) f = some none ∧
  ((H2 a = some (exo a C none) ∧ ∀ dx, H2 dx = none → dx ≠ a → D.nx σ (upd (upd H2 dx (exd dx [(f, y)])) a (exo a C (some dx)))) ∨
    ∃ (dx : Addr) (fs : List (Str × V)), H2 a = some (exo a C (some dx)) ∧ H2 dx = some (exd dx fs) ∧ fs.length ≤ 900 ∧ D.nx σ (upd H2 dx (exd dx ((f, y) :: fs))))
end
section
variable {X : Cx} {o e : Expr} {es : List Expr} {to te : TE} {ta : TA} {f x : Str} {p p' pos : Pos}
theorem ps_keep (ho : PE X o to) (he : PE X e te) (hs : swapsWith e (some (.Attribute o f p')) pos.line X.env = pure false := by rfl) : PS X (.Assign [.Attribute o f p'] e pos) (tKeep X.K f to te) := by
  refine ⟨fun pins s σ H D I h => plainObj_wpAny_Assign_Attribute (thn (he.run pins s σ H _ I h) fun v s1 ⟨y, H1, I1, r1, q1⟩ => thn (ho.run pins s1 σ H1 _ I1 q1) fun u s2 ⟨x, H2, I2, r2, a, C, ex, T, no, q⟩ => ?_) hs⟩
  subst ex
  obtain rfl : u = Value.ref a := r2
  rcases q with ⟨ea, q⟩ | ⟨dx, fs, ea, ed, hl, q⟩
  · exact keep_first T I2 ea no r1 fun dx s' n ne J => ⟨σ, _, J, q dx n ne⟩
  · exact keep_more T I2 ea ed hl no r1 fun s' J => ⟨σ, _, J, q⟩
/-- C(..), C's own __init__ keeping sp -/
theorem made_by {C fI : Addr} {k : Nat} {fd : FuncData} {ps : List Str} {sp : Sp} {pins : List (Addr × Obj)} {σ : St} {H : Hp} {s : Shared} {Q : XK} {us : List Value} {vs : List V} (T : OexA X.K C) (iC : PySem.W.findIn X.K (.ref C) "__init__" = some (some (.ref fI)))
    (tI : PySem.W.typeIn X.K (.ref fI) = some (.type "function")) (G : FnOk X.prog X.w X.K X.mg X.base CX0 k fI fd ps sp) (hr : Room (k + 1) X.A) (hb : Binds X.K fd ps []) (I : Inv X pins σ H s) (r : Vals vs us) (hl : vs.length ≤ 1000)
    (h : ∀ a, H a = none → sp (.ref a :: vs) (upd H a (exo a C none)) (fun v H2 => v = .non ∧ ∃ (d : Addr) (fs : List (Str × V)), H2 a = some (exo a C (some d)) ∧ H2 d = some (exd d fs) ∧ H d = none ∧ Q (.ref C) (some d) (upd (del H2 a) d (.xd fs))) (fun _ _ _ => False)) :
    wpAny (model X.prog X.w) X.A (call (.ref C) us) (MkP X pins σ Q) X.xe s := by
  obtain ⟨_, _, _, _, _, _, _, _, bm, _, _, _, _, _, _, _, _, _, _, hC, base, same, _⟩ := T.cls
  obtain ⟨hp, gs, dr, tk, os⟩ := s
  have fresh : hp.objs.size ≤ hp.objs.size + 1 := by omega
  have grow : ∀ b o, hp.get? b = some o → ((hp.push (PySem.W.kdv_tup us)).push (PySem.HandSPX.excO C hp.objs.size)).get? b = some o := fun b o z => Heap.get?_push_of_some _ (Heap.get?_push_of_some _ z)
  have there : ((hp.push (PySem.W.kdv_tup us)).push (PySem.HandSPX.excO C hp.objs.size)).get? (hp.objs.size + 1) = some (PySem.HandSPX.excO C hp.objs.size) := by heap_get
  have J := I.laid (t' := tk) grow fresh (exo_ok (P := X.prog) (w := X.w) (H := upd H (hp.objs.size + 1) (exo (hp.objs.size + 1) C none)) there)
  have hq := h _ (I.hok.fresh fresh)
  have r2 : Vals (V.ref (hp.objs.size + 1) :: vs) (Value.ref (hp.objs.size + 1) :: us) := .cons rfl r
  have len2 : (Value.ref (hp.objs.size + 1) :: us).length = ps.length := by rw [← r2.length]; exact G.len _ _ _ _ hq
  have bd := hb _ (Value.ref (hp.objs.size + 1) :: us) J.kIn (by rw [List.append_nil]; exact len2)
  rw [List.append_nil] at bd
  have inner := G.run _ X.stack _ _ ⟨Value.ref (hp.objs.size + 1) :: us, []⟩ (Value.ref (hp.objs.size + 1) :: us) _ _ (fun _ _ _ => False) (hr.make C us []) (J.env0.make C us []) bd r2 hq
  have short : us.length ≤ sizeLine := by rw [← r.length, sizeLine_eq]; omega
  refine wpAny_call (PySem.HandSPX.call_own base same (I.kIn _ _ hC) (PySem.W.looks_findIn I.kIn iC) (fun self => PySem.W.bind_fn I.kIn self tI) short (codeAny_mono inner fun r s' back => ?_))
  match r, back with
  | .error _, q => exact False.elim q
  | .ok (.ret u), q =>
    obtain ⟨v, H2, io, ib, iu, ih, rv, rfl, d, fs, ea, ed, hd, z⟩ := q
    obtain ⟨h2, g2, d2, t2, os2⟩ := s'
    exact ⟨rv, mk_end (raises_own T.exC T.tyC) I fresh grow iu ih io ib ea ed hd z⟩
  | .ok .next, q => exact False.elim q
  | .ok .brk, q => exact False.elim q
  | .ok .cont, q => exact False.elim q
theorem pmk_any {C fI : Addr} {k : Nat} {fd : FuncData} {ps : List Str} {sp : Sp} (T : OexA X.K C) (iC : PySem.W.findIn X.K (.ref C) "__init__" = some (some (.ref fI))) (tI : PySem.W.typeIn X.K (.ref fI) = some (.type "function"))
    (G : FnOk X.prog X.w X.K X.mg X.base CX0 k fI fd ps sp) (hr : Room (k + 1) X.A) (hb : Binds X.K fd ps []) (hg : Gl X x) (hm : X.mg x = some (.ref C)) (ha : PA X (e :: es) ta) (hdb : (x == ("__debug__" : Str)) = false)
    (he : starEach (e :: es) X.env = (false, eval e X.env) :: starEach es X.env) (hpl : (backTo pos (starEach es X.env)).any (·.1) = false) :
    PMk X (.Call (.Name x p) (e :: es) [] pos) (fun σ H Q => ta σ H fun vs H1 => vs.length ≤ 1000 ∧ ∀ a, H1 a = none → sp (.ref a :: vs) (upd H1 a (exo a C none))
      (fun v H2 => v = .non ∧ ∃ (d : Addr) (fs : List (Str × V)), H2 a = some (exo a C (some d)) ∧ H2 d = some (exd d fs) ∧ H1 d = none ∧ Q (.ref C) (some d) (upd (del H2 a) d (.xd fs))) (fun _ _ _ => False)) := fun pins s σ H Q I h =>
  wpAny_Call_Name_kw (ld_glob I hg hm (PySem.W.callWith_K (h₀ := X.base) I.ok.mod.kin T.kC (thn (ha.run pos pins s σ H _ I h) fun us s1 ⟨vs, H1, I1, r1, hz, q1⟩ => ⟨I1.kIn, made_by T iC tI G hr hb I1 r1 hz q1⟩) he hpl) hdb)
theorem pmk_none {C fI : Addr} {k : Nat} {fd : FuncData} {ps : List Str} {sp : Sp} (T : OexA X.K C) (iC : PySem.W.findIn X.K (.ref C) "__init__" = some (some (.ref fI))) (tI : PySem.W.typeIn X.K (.ref fI) = some (.type "function"))
    (G : FnOk X.prog X.w X.K X.mg X.base CX0 k fI fd ps sp) (hr : Room (k + 1) X.A) (hb : Binds X.K fd ps []) (hg : Gl X x) (hm : X.mg x = some (.ref C)) (hdb : (x == ("__debug__" : Str)) = false) :
    PMk X (.Call (.Name x p) [] [] pos) (fun σ H Q => ∀ a, H a = none → sp [.ref a] (upd H a (exo a C none))
      (fun v H2 => v = .non ∧ ∃ (d : Addr) (fs : List (Str × V)), H2 a = some (exo a C (some d)) ∧ H2 d = some (exd d fs) ∧ H d = none ∧ Q (.ref C) (some d) (upd (del H2 a) d (.xd fs))) (fun _ _ _ => False)) := fun pins s σ H Q I h =>
  wpAny_Call_Name_kw (ld_glob I hg hm (PySem.W.callWith_K0 I.kIn T.kC (made_by (us := []) (vs := []) T iC tI G hr hb I .nil (Nat.zero_le _) h)) hdb)
end
end L2

namespace DL
open PySem L2

abbrev Sh := List (Str × (Nat ⊕ Str))
def shV (sh : Sh) (vs : List V) : List (Str × V) := sh.map fun q => (q.1, match q.2 with | .inl i => vs.getD i .non | .inr z => .str z)
def shN (sh : Sh) : List Str := sh.map (·.1)
def shD (sh : Sh) (ds : List DV) : List DV := sh.map fun q => match q.2 with | .inl i => ds.getD i .non | .inr z => .str z
theorem shV_names (sh : Sh) (vs : List V) : (shV sh vs).map (·.1) = shN sh := by unfold shV shN; rw [List.map_map]; rfl
theorem reps_getD {F : Wo} {ds : List DV} {vs : List V} (h : Reps F ds vs) (i : Nat) : Rep F (ds.getD i .non) (vs.getD i .non) := by
  rw [List.getD_eq_getElem?_getD, List.getD_eq_getElem?_getD]
  cases e : ds[i]? with
  | some d =>
    obtain ⟨v, hv, r⟩ := h.get e
    rw [hv]; exact r
  | none =>
    have hv : vs[i]? = none := by
      rw [List.getElem?_eq_none_iff] at e ⊢
      rw [← h.length]; exact e
    rw [hv]; exact rep_non.mpr rfl
theorem reps_sh {F : Wo} {ds : List DV} {vs : List V} (h : Reps F ds vs) : ∀ sh : Sh, Reps F (shD sh ds) ((shV sh vs).map (·.2))
  | [] => Reps.nil
  | (f, .inl i) :: r => Reps.cons (reps_getD h i) (reps_sh h r)
  | (f, .inr z) :: r => Reps.cons (rep_str.mpr rfl) (reps_sh h r)

/-- the promise of such an __init__ -/
def spIni (C : Addr) (sh : Sh) (n : Nat) : Sp := fun vs H Q _ => ∃ (a : Addr) (ws : List V), vs = .ref a :: ws ∧ ws.length = n ∧ H a = some (exo a C none) ∧ ∀ d, H d = none → d ≠ a → Q .non (upd (upd H d (exd d (shV sh ws))) a (exo a C (some d)))
theorem upd_re {H : Hp} {a d : Addr} {x y u : HO} (n : d ≠ a) : upd (upd (upd H d x) a u) d y = upd (upd H d y) a u := by
  funext b
  by_cases h1 : b = d
  · rw [h1, upd_same, upd_ne n, upd_same]
  · rw [upd_ne h1]
    by_cases h2 : b = a
    · rw [h2, upd_same, upd_same]
    · rw [upd_ne h2, upd_ne h1, upd_ne h2, upd_ne h1]
section
variable {P : Program} {w : World} {K : PySem.W.Frag} {mg : Str → Option Value} {base : Heap} {C f : Addr} {fd : FuncData} {qual : Str} {st : Stmt} {x1 x2 word f1 f2 : Str}
/-- the class and its fields' names -/
structure EC (K : PySem.W.Frag) (C : Addr) (sh : Sh) : Prop where
  ok : OexA K C
  no : ∀ q ∈ sh, PySem.W.findIn K (.ref C) q.1 = some none
theorem ini0 {p1 p2 p3 p4 : Pos} {j : Nat} (T : EC K C [("word", .inr word)]) (Fn : Fun K "__init__" qual st f fd) (S : FnScope ["self"] ["self"] (defScope st)) (hb : defBody st = [.Assign [.Attribute (.Name "self" p1) "word" p2] (.Constant (.str word) j p3) p4]) :
    FnOk P w K mg base CX0 1 f fd ["self"] (spIni C [("word", .inr word)] 0) := by
  refine Fn.ok S (fun vs H Q E ⟨a, ws, e, hl, _⟩ => by rw [e, List.length_cons, hl]; rfl) fun cdv A outer s H vs Q E hr h => ?_
  obtain ⟨a, ws, rfl, hl, ha, hq⟩ := h
  rw [hb]
  have vs0 : Vis (defScope st) "self" := vis_par S List.mem_cons_self
  refine ⟨_, pss_one (ps_keep (pe_var (i := 0) rfl vs0) pe_str), ?_⟩
  exact ⟨_, rfl, a, C, rfl, T.ok, T.no _ List.mem_cons_self, .inl ⟨ha, fun d nd na => hq d nd na⟩⟩
theorem ini1 {p1 p2 p3 p4 p5 p6 p7 p8 : Pos} {j : Nat} (T : EC K C [("word", .inr word), (f1, .inl 0)]) (Fn : Fun K "__init__" qual st f fd) (S : FnScope ["self", x1] ["self", x1] (defScope st))
    (hb : defBody st = [.Assign [.Attribute (.Name "self" p1) f1 p2] (.Name x1 p3) p4, .Assign [.Attribute (.Name "self" p5) "word" p6] (.Constant (.str word) j p7) p8])
    (hd : (x1 == ("__debug__" : Str)) = false := by decide) (hcd : (x1 == ("__classdict__" : Str)) = false := by decide) :
    FnOk P w K mg base CX0 1 f fd ["self", x1] (spIni C [("word", .inr word), (f1, .inl 0)] 1) := by
  refine Fn.ok S (fun vs H Q E ⟨a, ws, e, hl, _⟩ => by rw [e, List.length_cons, hl]; rfl) fun cdv A outer s H vs Q E hr h => ?_
  obtain ⟨a, ws, rfl, hl, ha, hq⟩ := h
  rw [hb]
  have vs0 : Vis (defScope st) "self" := vis_par S List.mem_cons_self
  have vs1 : Vis (defScope st) x1 := vis_par S (List.mem_cons_of_mem _ List.mem_cons_self)
  match ws, hl, hq with
  | [y], _, hq =>
    refine ⟨_, pss_cons (ps_keep (pe_var (i := 0) rfl vs0) (pe_var (i := 1) rfl vs1 hd hcd)) (pss_one (ps_keep (pe_var (i := 0) rfl vs0) pe_str)), ?_⟩
    refine ⟨_, rfl, _, rfl, a, C, rfl, T.ok, T.no _ (List.mem_cons_of_mem _ List.mem_cons_self), .inl ⟨ha, fun d nd na => ?_⟩⟩
    refine ⟨_, rfl, a, C, rfl, T.ok, T.no _ List.mem_cons_self, .inr ⟨d, _, upd_same, (upd_ne na).trans upd_same, by show 1 ≤ 900; decide, ?_⟩⟩
    rw [upd_re na]
    exact hq d nd na
end

structure Erc (P : Program) (w : World) (K : PySem.W.Frag) (mg : Str → Option Value) (base : Heap) (x : Str) (C : Addr) (sh : Sh) (n : Nat) : Prop where
  ok : OexA K C
  m : mg x = some (.ref C)
  ini : ∃ (fI : Addr) (fd : FuncData) (ps : List Str), PySem.W.findIn K (.ref C) "__init__" = some (some (.ref fI)) ∧ PySem.W.typeIn K (.ref fI) = some (.type "function") ∧ FnOk P w K mg base CX0 1 fI fd ps (spIni C sh n) ∧ Binds K fd ps [] ∧ ps.length = n + 1
section
variable {X : Cx} {x : Str} {C : Addr} {sh : Sh} {n : Nat} {p pos : Pos} {e : Expr} {es : List Expr} {ta : TA}
theorem del_upd2 {H : Hp} {a d : Addr} {x y z u : HO} (n : d ≠ a) (ha : H a = none) : upd (del (upd (upd (upd H a x) d y) a z) a) d u = upd H d u := by
  funext b
  by_cases h1 : b = d
  · rw [h1, upd_same, upd_same]
  · rw [upd_ne h1, upd_ne h1]
    by_cases h2 : b = a
    · rw [h2, del_same, ha]
    · rw [del_ne h2, upd_ne h2, upd_ne h1, upd_ne h2]
/-- after the __init__: what mkO wishes -/
theorem ini_end {H1 : Hp} {a : Addr} {vs : List V} {Q : XK} (na : H1 a = none) (hl : vs.length = n) (hq : ∀ d, H1 d = none → Q (.ref C) (some d) (upd H1 d (.xd (shV sh vs)))) (E : XK) :
    spIni C sh n (.ref a :: vs) (upd H1 a (exo a C none)) (fun v H2 => v = .non ∧ ∃ (d : Addr) (fs : List (Str × V)), H2 a = some (exo a C (some d)) ∧ H2 d = some (exd d fs) ∧ H1 d = none ∧ Q (.ref C) (some d) (upd (del H2 a) d (.xd fs))) E := by
  refine ⟨a, vs, rfl, hl, upd_same, fun d nd nad => ⟨rfl, d, shV sh vs, upd_same, (upd_ne nad).trans upd_same, by rwa [upd_ne nad] at nd, ?_⟩⟩
  rw [del_upd2 nad na]
  exact hq d (by rwa [upd_ne nad] at nd)

end
abbrev WD := Addr → List Str → List DV → DSt → Prop
/-- raise C(..) -/
def dRaise (w : WD) (C : Addr) (sh : Sh) (n : Nat) (t : AA) : ASt := fun _ ρ => t ρ fun ds ρ1 => ds.length = n ∧ w C (shN sh) (shD sh ds) ρ1
section
variable {X : Cx} {x : Str} {C : Addr} {sh : Sh} {n : Nat} {p pos pos2 : Pos} {e : Expr} {es : List Expr} {t : AA} {F0 : Wo} {H0 : Hp} {W : WX} {w : WD}
    {lk : ∀ (L : Addr → Option HO) F' H' ρ' σ' C dd fs ds, Wd ⟨F0, H0, L⟩ F' H' → RSt ⟨F0, H0, L⟩ F' ρ' σ' H' → F'.fz dd = some (.xd fs) → Reps F' ds (fs.map (·.2)) → w C (fs.map (·.1)) ds ρ' → W (.ref C) (some dd) σ' H'}
theorem raise_end {L : Addr → Option HO} {F : Wo} {H : Hp} {ρ : DSt} {σ : L2.St} {ds : List DV} {vs : List V} (wd : Wd ⟨F0, H0, L⟩ F H) (r : RSt ⟨F0, H0, L⟩ F ρ σ H) (hs : Reps F ds vs) (h : w C (shN sh) (shD sh ds) ρ)
    (lk : ∀ (L : Addr → Option HO) F' H' ρ' σ' C dd fs ds, Wd ⟨F0, H0, L⟩ F' H' → RSt ⟨F0, H0, L⟩ F' ρ' σ' H' → F'.fz dd = some (.xd fs) → Reps F' ds (fs.map (·.2)) → w C (fs.map (·.1)) ds ρ' → W (.ref C) (some dd) σ' H') :
    ∀ d, H d = none → W (.ref C) (some d) σ (upd H d (.xd (shV sh vs))) := by
  intro d nd
  have s := wd.lay (o := .xd (shV sh vs)) nd
  refine lk L _ _ ρ σ C d (shV sh vs) (shD sh ds) s.wd (s.st _ _ r) Wo.add_same ((reps_sh hs sh).mono s.ext) ?_
  rw [shV_names]
  exact h
theorem ds_raise (hc : X.calm = true) (tk : Takes X W) (T : Erc X.prog X.w X.K X.mg X.base x C sh n) (hn : n ≤ 1000) (hr : Room 2 X.A) (ha : DA ⟨F0, H0, W, w, lk⟩ X (e :: es) t) (hg : Gl X x := by rfl) (hdb : (x == ("__debug__" : Str)) = false := by decide)
    (he : starEach (e :: es) X.env = (false, eval e X.env) :: starEach es X.env := by rfl) (hpl : (backTo pos (starEach es X.env)).any (·.1) = false := by rfl) :
    DS ⟨F0, H0, W, w, lk⟩ X (.Raise (some (.Call (.Name x p) (e :: es) [] pos)) none pos2) (dRaise w C sh n t) := by
  obtain ⟨fI, fd, ps, iC, tI, G, b, hps⟩ := T.ini
  refine ⟨ps_imp (ps_raise hc tk (pmk_any T.ok iC tI G hr b hg T.m ha.pa hdb he hpl)) fun D σ H h => ?_⟩
  obtain ⟨L, F, ρ, K, wd, r, q, k⟩ := h
  refine ⟨L, F, ρ, _, wd, r, q, fun F1 H1 ρ1 ds vs w1 x1 r1 hs ⟨hl, q1⟩ => ?_⟩
  have hl : vs.length = n := hs.length ▸ hl
  refine ⟨by omega, fun a na => ?_⟩
  exact ini_end (Q := fun c d H' => W c d σ H') na hl (raise_end w1 r1 hs q1 lk) _
def dRaise0 (w : WD) (C : Addr) (sh : Sh) : ASt := fun _ ρ => w C (shN sh) (shD sh []) ρ
theorem ds_raise0 (hc : X.calm = true) (tk : Takes X W) (T : Erc X.prog X.w X.K X.mg X.base x C sh 0) (hr : Room 2 X.A) (hg : Gl X x := by rfl) (hdb : (x == ("__debug__" : Str)) = false := by decide) :
    DS ⟨F0, H0, W, w, lk⟩ X (.Raise (some (.Call (.Name x p) [] [] pos)) none pos2) (dRaise0 w C sh) := by
  obtain ⟨fI, fd, ps, iC, tI, G, b, hps⟩ := T.ini
  refine ⟨ps_imp (ps_raise hc tk (pmk_none T.ok iC tI G hr b hg T.m hdb)) fun D σ H h => ?_⟩
  obtain ⟨L, F, ρ, K, wd, r, q, k⟩ := h
  exact fun a na => ini_end (Q := fun c d H' => W c d σ H') (vs := []) na rfl (raise_end wd r (ds := []) Reps.nil q lk) _
end
end DL

namespace DL
open PySem L2

theorem Wd.noL {F0 F : Wo} {H0 H : Hp} {L : Addr → Option HO} (w : Wd ⟨F0, H0, L⟩ F H) : Wd (b0 F0 H0) F H := ⟨w.ext, w.fz, w.ce, w.nfz, w.nce, w.fr, w.dj, (fun _ _ e => nomatch e), w.lk, w.nt, (fun _ _ e => nomatch e)⟩
/-- the wish over data implies the wish over the heap -/
abbrev Lk (F0 : Wo) (H0 : Hp) (W : WX) (w : WD) : Prop := ∀ (L : Addr → Option HO) F' H' ρ' σ' C dd fs ds, Wd ⟨F0, H0, L⟩ F' H' → RSt ⟨F0, H0, L⟩ F' ρ' σ' H' → F'.fz dd = some (.xd fs) → Reps F' ds (fs.map (·.2)) → w C (fs.map (·.1)) ds ρ' → W (.ref C) (some dd) σ' H'
section
variable {P : Program} {w : World} {K : PySem.W.Frag} {mg : Str → Option Value} {base : Heap}
abbrev cxX (P : Program) (w : World) (K : PySem.W.Frag) (mg : Str → Option Value) (base : Heap) (N : List Str) (qual : Str) (st : Stmt) (f : Addr) (cdv : Value) (A : Around) (outer : List Env) (s : Shared) (H : Hp) (E : XK) : Cx :=
  cxOf (L2.CX P w) P w K mg base N qual (defScope st) f cdv A outer s H E
theorem dfn_okX {x qual : Str} {st : Stmt} {f : Addr} {fd : FuncData} {N ps : List Str} {k : Nat} {sp : DSp} (Fn : Fun K x qual st f fd) (S : FnScope N ps (defScope st)) (len : ∀ ds Q E, sp ds Q E → ds.length = ps.length) {a : WD → ASt}
    (hbody : ∀ (F0 : Wo) (H0 : Hp) (W : WX) (w' : WD) (lk : Lk F0 H0 W w') (cdv : Value) (A : Around) (outer : List Env) (s : Shared) (H : Hp) (E : XK), Room k (A.deeper (PyProof.Rows.envOfC qual (defScope st) s.heap.objs.size f cdv)) →
      Takes (cxX P w K mg base N qual st f cdv A outer s H E) W → DSs ⟨F0, H0, W, w', lk⟩ (cxX P w K mg base N qual st f cdv A outer s H E) (defBody st) (a w'))
    (hsp : ∀ ds Q E, sp ds Q E → a (fun C ns vs _ => E C ns vs) { nx := fun _ => Q .non, rt := fun d _ => Q d } (startD N.length ds)) : FnOk P w K mg base (L2.CX P w) (k + 1) f fd ps (spD sp) := by
  refine Fn.okX S (fun vs H Q E ⟨F, ds, Q', E', _, hr, hs, _, _⟩ => by rw [← hr.length]; exact len _ _ _ hs) fun cdv A outer s H vs Q E hroom h => ?_
  obtain ⟨F, ds, Q', E', w0, hr, hs, hq, hx⟩ := h
  have lk : Lk F H (fun cls d _ H' => E cls d H') (fun C ns vs _ => E' C ns vs) := fun L F' H' ρ' σ' C dd fs ds wd _ hf hs' hE => hx F' H' C dd fs ds wd.noL hf hs' hE
  refine ⟨_, (hbody F H (fun cls d _ H' => E cls d H') (fun C ns vs _ => E' C ns vs) lk cdv A outer s H E hroom (takes_of rfl rfl rfl rfl)).ps, fun _ => none, F, startD N.length ds, _, w0, start_rst hr, hsp ds Q' E' hs, ⟨?_, ?_, ?_, ?_, fun _ _ _ _ _ _ _ _ z => z.elim⟩⟩
  · exact fun F' H' σ' ρ' w' _ _ q' => hq F' H' .non .non w' (rep_non.mpr rfl) q'
  · exact fun _ _ _ _ _ _ _ q' => False.elim q'
  · exact fun _ _ _ _ _ _ _ q' => False.elim q'
  · exact fun F' H' _ _ d v w' _ _ hd q' => hq F' H' d v w' hd q'
end
section
variable {X : Cx} {x : Str} {p pos : Pos} {e : Expr} {es : List Expr} {t : AA} {k n : Nat} {f : Addr} {fd : FuncData} {ps : List Str} {sp : DSp} {F0 : Wo} {H0 : Hp} {W : WX} {w : WD} {lk : Lk F0 H0 W w}
def dCallX (sp : DSp) (w : WD) (t : AA) : AE := fun ρ Q => t ρ fun ds ρ1 => sp ds (fun d => Q d ρ1) (fun C ns vs => w C ns vs ρ1)
theorem xok_here {L : Addr → Option HO} {F1 : Wo} {H1 : Hp} {ρ1 : DSt} {σ : L2.St} (lk : Lk F0 H0 W w) (w1 : Wd ⟨F0, H0, L⟩ F1 H1) (r1 : RSt ⟨F0, H0, L⟩ F1 ρ1 σ H1) : XOk F1 H1 (fun C ns vs => w C ns vs ρ1) (WE W σ) := by
  intro F' H' C dd fs ds' w' hf hs' hw
  have s := w1.call w'
  exact lk L F' H' ρ1 σ C dd fs ds' s.wd (s.st _ _ r1) hf hs' hw
/-- a def of the text that errors may leave, by its name -/
structure CalX (P : Program) (w : World) (K : PySem.W.Frag) (mg : Str → Option Value) (base : Heap) (x : Str) (k : Nat) (n : Nat) (sp : DSp) : Prop where
  ex : ∃ (f : Addr) (fd : FuncData) (ps : List Str), FnOk P w K mg base (L2.CX P w) k f fd ps (spD (spN n sp)) ∧ mg x = some (.ref f) ∧ PySem.W.keepIn K (.ref f) = true ∧ Binds K fd ps [] ∧ ps.length = n
end
section
variable {P : Program} {w : World} {K : PySem.W.Frag} {mg : Str → Option Value} {base : Heap}
theorem dcal_okX {x : Str} {st : Stmt} {N ps : List Str} {k : Nat} {sp : DSp} (T : Tx K mg x st) (S : FnScope N ps (defScope st)) (hb : BindAs st x ps) {a : WD → ASt}
    (hbody : ∀ (f : Addr) (F0 : Wo) (H0 : Hp) (W : WX) (w' : WD) (lk : Lk F0 H0 W w') (cdv : Value) (A : Around) (outer : List Env) (s : Shared) (H : Hp) (E : XK), Room k (A.deeper (PyProof.Rows.envOfC x (defScope st) s.heap.objs.size f cdv)) →
      Takes (cxX P w K mg base N x st f cdv A outer s H E) W → DSs ⟨F0, H0, W, w', lk⟩ (cxX P w K mg base N x st f cdv A outer s H E) (defBody st) (a w'))
    (hsp : ∀ ds Q E, sp ds Q E → a (fun C ns vs _ => E C ns vs) { nx := fun _ => Q .non, rt := fun d _ => Q d } (startD N.length ds)) : CalX P w K mg base x (k + 1) ps.length sp := by
  obtain ⟨f, fd, F, m⟩ := T.ex
  exact ⟨f, fd, ps, dfn_okX F S (fun _ _ _ h => h.1) (hbody f) (fun ds Q E h => hsp ds Q E h.2), m, F.kp, F.binds hb, rfl⟩
end
end DL

namespace DL
open PySem L2

section
variable {X : Cx} {CX : CXT} {k : Nat} {f C : Addr} {fd : FuncData} {ps : List Str} {sp : Sp} {E : L2.St → XK} {x m : Str} {p pos apos : Pos} {e o : Expr} {es : List Expr} {ta : TE} {t : TA}
def tMethZ (C : Addr) (m : Str) (sp : Sp) (E : L2.St → XK) (ta : TE) (t : TA) : TE := fun σ H Q => ta σ H fun x H1 => ∃ a dx fs, x = .ref a ∧ H1 a = some (.ins C dx fs) ∧ fs.lookup m = none ∧ t σ H1 fun vs H2 => sp (x :: vs) H2 Q (E σ)
theorem pe_methZ {pl : Sem Bool} (he : PE X o ta) (c : Cls X.K C) (hm : Meth X.K C m f) (F : FnOk X.prog X.w X.K X.mg X.base CX k f fd ps sp) (hr : Room k X.A) (hb : Binds X.K fd ps []) (hx : ∀ σ, PassesAt CX X σ (E σ)) (ha : PA X (e :: es) t)
    (hst : starEach (e :: es) X.env = (false, eval e X.env) :: starEach es X.env := by rfl) (hpl : (backTo pos (starEach es X.env)).any (·.1) = false := by rfl)
    (ht : eval (.Call (.Attribute o m apos) (e :: es) [] pos) X.env = (do
      let ov ← eval o X.env; standAt apos.atName; let (f, first) ← holding [ov] (getMethod ov m pl); callWith pos f first (backTo pos (starEach (e :: es) X.env)) (backToKw pos (keywordEach [] X.env))) := by rfl) :
    PE X (.Call (.Attribute o m apos) (e :: es) [] pos) (tMethZ C m sp E ta t) := by
  refine ⟨fun pins s σ H Q I h => PySem.W.methodCall_KW (pl := pl) (thn (he.run pins s σ H _ I h) fun u s1 ⟨x, H1, I1, rx, a, dx, fs, ex, ea, l, q⟩ => ?_) ht⟩
  subst ex
  obtain rfl : u = Value.ref a := rx
  refine getmeth_ok I1 ea c hm l (PySem.W.callWith_K (first := [.ref a]) (h₀ := X.base) I.ok.mod.kin hm.kp (thn (ha.run pos pins s1 σ H1 _ I1 q) fun us s2 ⟨vs, H2, I2, r, q2⟩ => ⟨I2.kIn, ?_⟩) hst hpl)
  exact run_fnS (us := .ref a :: us) (vs := .ref a :: vs) F hr hb (hx σ) I2 (.cons rfl r) q2
theorem pe_methZ0 {pl : Sem Bool} (he : PE X o ta) (c : Cls X.K C) (hm : Meth X.K C m f) (F : FnOk X.prog X.w X.K X.mg X.base CX k f fd ps sp) (hr : Room k X.A) (hb : Binds X.K fd ps []) (hx : ∀ σ, PassesAt CX X σ (E σ))
    (ht : eval (.Call (.Attribute o m apos) [] [] pos) X.env = (do
      let ov ← eval o X.env; standAt apos.atName; let (f, first) ← holding [ov] (getMethod ov m pl); callWith pos f first (backTo pos (starEach [] X.env)) (backToKw pos (keywordEach [] X.env))) := by rfl) :
    PE X (.Call (.Attribute o m apos) [] [] pos) (tMethZ C m sp E ta tNil) := by
  refine ⟨fun pins s σ H Q I h => PySem.W.methodCall_KW (pl := pl) (thn (he.run pins s σ H _ I h) fun u s1 ⟨x, H1, I1, rx, a, dx, fs, ex, ea, l, q⟩ => ?_) ht⟩
  subst ex
  obtain rfl : u = Value.ref a := rx
  exact getmeth_ok I1 ea c hm l (PySem.W.callWith_K0 (first := [.ref a]) I1.kIn hm.kp (run_fnS (us := [.ref a]) (vs := [.ref a]) F hr hb (hx σ) I1 (.cons rfl .nil) q))
def tMakeZ (C : Addr) (sp : Sp) (E : L2.St → XK) (t : TA) : TE := fun σ H Q => t σ H fun vs H1 => ∀ x dx, H1 x = none → H1 dx = none → dx ≠ x → sp (.ref x :: vs) (upd (upd H1 dx (.own x)) x (.ins C dx [])) (fun v H2 => v = .non ∧ Q (.ref x) H2) (E σ)
theorem run_makeZ {pins : List (Addr × Obj)} {σ : L2.St} {H : Hp} {s : Shared} {Q : VK} {us : List Value} {vs : List V} (M : Mk X.K C f) (F : FnOk X.prog X.w X.K X.mg X.base CX k f fd ps sp) (hr : Room (k + 1) X.A) (hb : Binds X.K fd ps [])
    (hx : ∀ σ, PassesAt CX X σ (E σ)) (I : Inv X pins σ H s) (r : Vals vs us) (h : ∀ x dx, H x = none → H dx = none → dx ≠ x → sp (.ref x :: vs) (upd (upd H dx (.own x)) x (.ins C dx [])) (fun v H2 => v = .non ∧ Q (.ref x) H2) (E σ)) :
    wpAny (model X.prog X.w) X.A (call (.ref C) us) (EP X pins σ Q) X.xe s := by
  have hq := h (s.heap.objs.size + 1) s.heap.objs.size (I.hok.fresh (Nat.le_succ _)) (I.hok.fresh (Nat.le_refl _)) (Nat.ne_of_lt (Nat.lt_succ_self _))
  have J := Inv.made (C := C) I
  have r2 : Vals (V.ref (s.heap.objs.size + 1) :: vs) (Value.ref (s.heap.objs.size + 1) :: us) := .cons rfl r
  have hl : (Value.ref (s.heap.objs.size + 1) :: us).length = ps.length := by rw [← r2.length]; exact F.len _ _ _ _ hq
  have bd := hb _ (Value.ref (s.heap.objs.size + 1) :: us) J.kIn (by rw [List.append_nil]; exact hl)
  rw [List.append_nil] at bd
  have run := F.run _ X.stack _ _ ⟨Value.ref (s.heap.objs.size + 1) :: us, []⟩ (Value.ref (s.heap.objs.size + 1) :: us) _ _ (E σ) (hr.make C us []) (J.env0.make C us []) bd r2 hq
  refine wpAny_call (make_map (f := f) I.kIn M.makes M.init (beq_iff_eq.mp M.fn) (codeAny_mono run fun r s' hq' => ?_))
  match r, hq' with
  | .error e, q => exact hx σ pins _ _ e s' J q
  | .ok (.ret u), q =>
    obtain ⟨v, H', I3, rv, ev, q3⟩ := J.after q
    subst ev
    exact ⟨rv, ⟨V.ref (s.heap.objs.size + 1), H', I3, rfl, q3⟩⟩
  | .ok .next, q => exact False.elim q
  | .ok .brk, q => exact False.elim q
  | .ok .cont, q => exact False.elim q
theorem pe_makeZ (M : Mk X.K C f) (F : FnOk X.prog X.w X.K X.mg X.base CX k f fd ps sp) (hr : Room (k + 1) X.A) (hg : Gl X x) (hm : X.mg x = some (.ref C)) (hb : Binds X.K fd ps []) (hx : ∀ σ, PassesAt CX X σ (E σ))
    (ha : PA X (e :: es) t) (hdb : (x == ("__debug__" : Str)) = false := by decide) (he : starEach (e :: es) X.env = (false, eval e X.env) :: starEach es X.env := by rfl) (hpl : (backTo pos (starEach es X.env)).any (·.1) = false := by rfl) :
    PE X (.Call (.Name x p) (e :: es) [] pos) (tMakeZ C sp E t) :=
  ⟨fun pins s σ H Q I h => wpAny_Call_Name_kw (ld_glob I hg hm (PySem.W.callWith_K (h₀ := X.base) I.ok.mod.kin M.kp (thn (ha.run pos pins s σ H _ I h) fun us s1 ⟨vs, H1, I1, r, q⟩ => ⟨I1.kIn, run_makeZ M F hr hb hx I1 r q⟩) he hpl) hdb)⟩
end

def lookF : List Str → List DV → Str → Option DV
  | n :: ns, d :: ds, f => if f = n then some d else lookF ns ds f
  | _, _, _ => none
theorem lookF_val {F : Wo} {f : Str} : ∀ {fs : List (Str × V)} {ds : List DV} {d : DV}, Reps F ds (fs.map (·.2)) → lookF (fs.map (·.1)) ds f = some d → ∃ v, fs.lookup f = some v ∧ Rep F d v
  | [], ds, d, _, h => by simp [lookF] at h
  | (n, v) :: fs, ds, d, hr, h => by
    obtain ⟨d0, ds, rfl⟩ : ∃ d0 r, ds = d0 :: r := by cases ds with | nil => simp [lookF] at h | cons a b => exact ⟨a, b, rfl⟩
    obtain ⟨v0, r, e0, q, qs⟩ := reps_cons.mp hr
    rw [List.map_cons] at e0
    cases e0
    have h : (if f = n then some d0 else lookF (fs.map (·.1)) ds f) = some d := h
    by_cases c : f = n
    · rw [if_pos c] at h; cases h
      exact ⟨v, by subst c; simp [List.lookup], q⟩
    · rw [if_neg c] at h
      obtain ⟨u, hu, ru⟩ := lookF_val qs h
      exact ⟨u, by rw [List.lookup]; have : (f == n) = false := by simpa using c
                   rw [this]; exact hu, ru⟩
/-- no field of that name -/
def NoF (ns : List Str) (m : Str) : Prop := ns.all (fun n => !decide (m = n)) = true
theorem NoF.look {m : Str} : ∀ {fs : List (Str × V)}, NoF (fs.map (·.1)) m → fs.lookup m = none
  | [], _ => rfl
  | (n, v) :: fs, h => by
    have h' : (!decide (m = n) && (fs.map (·.1)).all fun n => !decide (m = n)) = true := h
    rw [Bool.and_eq_true] at h'
    have c : ¬ m = n := by simpa using h'.1
    rw [List.lookup]
    have : (m == n) = false := by simpa using c
    rw [this]
    exact NoF.look h'.2
section
variable {Z : Zx} {X : Cx} {pos p apos : Pos} {e o : Expr} {es : List Expr} {a : AE} {t : AA} {C : Addr} {f m x : Str} {k n : Nat}
/-- e.f of an object that stands still -/
def dFld (C : Addr) (f : Str) (a : AE) : AE := fun ρ Q => a ρ fun x ρ1 => ∃ ns ds d, x = .obj C ns ds ∧ lookF ns ds f = some d ∧ Q d ρ1
theorem de_fld (c : Cls X.K C) (hn : NoAttr X.K C f) (he : DE Z X e a) (hb : attributeBase e f X.env (eval e X.env) = eval e X.env := by rfl) : DE Z X (.Attribute e f pos) (dFld C f a) := by
  refine ⟨pe_imp (pe_fld he.pe hb) fun σ H Q h => ?_⟩
  obtain ⟨L, F, ρ, Q', w, r, q, k⟩ := h
  refine ⟨L, F, ρ, _, w, r, q, fun F1 H1 ρ1 dx x w1 x1 r1 hx ⟨ns, ds, d, ex, hl, q1⟩ => ?_⟩
  subst ex
  obtain ⟨b, dx, fs, rfl, ff, rfl, hs⟩ := rep_obj.mp hx
  obtain ⟨v, hv, rv⟩ := lookF_val hs hl
  exact ⟨b, C, dx, fs, v, rfl, w1.ins ff, c, hn, hv, k F1 H1 ρ1 d v w1 x1 r1 rv q1⟩
/-- what a callee may let out (CX) goes on by the wish wc over data -/
structure Go (Z : Zx) (X : Cx) (CX : CXT) (wc : WD) : Prop where
  ex : ∃ E : L2.St → XK, (∀ σ, PassesAt CX X σ (E σ)) ∧ ∀ (L : Addr → Option HO) F1 H1 ρ1 σ, Wd (Z.b L) F1 H1 → RSt (Z.b L) F1 ρ1 σ H1 → XOk F1 H1 (fun C ns vs => wc C ns vs ρ1) (E σ)
abbrev noW : WD := fun _ _ _ _ => False
/-- the callee lets nothing out -/
theorem go0 : Go Z X CX0 noW := ⟨fun _ => L2.E0, fun _ _ _ _ _ _ _ h => h.elim, fun _ _ _ _ _ _ _ _ _ _ _ _ _ _ _ _ z => z⟩
/-- it might, and does not here -/
theorem goN : Go Z X (L2.CX X.prog X.w) noW := ⟨fun _ => L2.E0, fun σ pins H s e s' I c => passL pins σ H s e s' I c, fun _ _ _ _ _ _ _ _ _ _ _ _ _ _ _ _ z => z⟩
theorem goX {F0 : Wo} {H0 : Hp} {W : WX} {w : WD} {lk : Lk F0 H0 W w} (tk : Takes X W) : Go ⟨F0, H0, W, w, lk⟩ X (L2.CX X.prog X.w) w := ⟨WE W, fun σ => passAt tk σ, fun _ _ _ _ _ w1 r1 => xok_here lk w1 r1⟩
/-- a def by its name -/
structure Cg (CX : CXT) (P : Program) (w : World) (K : PySem.W.Frag) (mg : Str → Option Value) (base : Heap) (x : Str) (k : Nat) (n : Nat) (sp : DSp) : Prop where
  ex : ∃ (f : Addr) (fd : FuncData) (ps : List Str), FnOk P w K mg base CX k f fd ps (spD (spN n sp)) ∧ mg x = some (.ref f) ∧ PySem.W.keepIn K (.ref f) = true ∧ Binds K fd ps [] ∧ ps.length = n
theorem CalX.g {P : Program} {w : World} {K : PySem.W.Frag} {mg : Str → Option Value} {base : Heap} {x : Str} {k n : Nat} {sp : DSp} (c : CalX P w K mg base x k n sp) : Cg (L2.CX P w) P w K mg base x k n sp := ⟨c.ex⟩
/-- a method's body by its class and name -/
structure Mg (CX : CXT) (P : Program) (w : World) (K : PySem.W.Frag) (mg : Str → Option Value) (base : Heap) (C : Addr) (m : Str) (k : Nat) (n : Nat) (sp : DSp) : Prop where
  c : Cls K C
  ex : ∃ (f : Addr) (fd : FuncData) (ps : List Str), FnOk P w K mg base CX k f fd ps (spD (spN n sp)) ∧ Meth K C m f ∧ Binds K fd ps [] ∧ ps.length = n
def dMeth (C : Addr) (m : Str) (sp : DSp) (wc : WD) (a : AE) (t : AA) : AE := fun ρ Q => a ρ fun x ρ1 => (∃ ns ds, x = .obj C ns ds ∧ NoF ns m) ∧ t ρ1 fun ds ρ2 => sp (x :: ds) (fun d => Q d ρ2) (fun C ns vs => wc C ns vs ρ2)
section
variable {CX : CXT} {wc : WD} {sp : DSp}
theorem dcallG (G : Cg CX X.prog X.w X.K X.mg X.base x k n sp) (hr : Room k X.A) (go : Go Z X CX wc) (ha : DA Z X (e :: es) t) (hg : Gl X x := by rfl) (hdb : (x == ("__debug__" : Str)) = false := by decide)
    (he : starEach (e :: es) X.env = (false, eval e X.env) :: starEach es X.env := by rfl) (hpl : (backTo pos (starEach es X.env)).any (·.1) = false := by rfl) : DE Z X (.Call (.Name x p) (e :: es) [] pos) (dCallX (spN n sp) wc t) := by
  obtain ⟨f, fd, ps, G, m, kp, b, hn⟩ := G.ex
  obtain ⟨E, hx, xo⟩ := go.ex
  refine ⟨pe_imp (pe_callS G hr hg m kp b hx ha.pa hdb he hpl) fun σ H Q h => ?_⟩
  obtain ⟨L, F, ρ, Q', wd, r, q, k⟩ := h
  refine ⟨L, F, ρ, _, wd, r, q, fun F1 H1 ρ1 ds vs w1 x1 r1 hs q1 => ⟨F1, ds, _, _, w1.again, hs, q1, fun F2 H2 d v w2 hr q2 => ?_, xo L F1 H1 ρ1 σ w1 r1⟩⟩
  have s := w1.call w2
  exact k F2 H2 ρ1 d v s.wd (x1.trans s.ext) (s.st _ _ r1) hr q2
/-- o.m(e, ..), o.m() -/
theorem dmethG (G : Mg CX X.prog X.w X.K X.mg X.base C m k n sp) (hr : Room k X.A) (go : Go Z X CX wc) (he : DE Z X o a) (ha : DA Z X (e :: es) t) {pl : Sem Bool}
    (hst : starEach (e :: es) X.env = (false, eval e X.env) :: starEach es X.env := by rfl) (hpl : (backTo pos (starEach es X.env)).any (·.1) = false := by rfl)
    (ht : eval (.Call (.Attribute o m apos) (e :: es) [] pos) X.env = (do
      let ov ← eval o X.env; standAt apos.atName; let (f, first) ← holding [ov] (getMethod ov m pl); callWith pos f first (backTo pos (starEach (e :: es) X.env)) (backToKw pos (keywordEach [] X.env))) := by rfl) :
    DE Z X (.Call (.Attribute o m apos) (e :: es) [] pos) (dMeth C m (spN n sp) wc a t) := by
  obtain ⟨g, fd, ps, G1, M, b, hn⟩ := G.ex
  obtain ⟨E, hx, xo⟩ := go.ex
  refine ⟨pe_imp (pe_methZ he.pe G.c M G1 hr b hx ha.pa hst hpl ht) fun σ H Q h => ?_⟩
  obtain ⟨L, F, ρ, Q', wd, r, q, k⟩ := h
  refine ⟨L, F, ρ, _, wd, r, q, fun F1 H1 ρ1 dx x w1 x1 r1 hx ⟨⟨ns, ds, ex, hn⟩, q1⟩ => ?_⟩
  subst ex
  have hx0 := hx
  obtain ⟨b, dx, fs, rfl, ff, rfl, hs⟩ := rep_obj.mp hx
  refine ⟨b, dx, fs, rfl, w1.ins ff, hn.look, L, F1, ρ1, _, w1, r1, q1, fun F2 H2 ρ2 es vs w2 x2 r2 hes q2 => ?_⟩
  refine ⟨F2, _, _, _, w2.again, Reps.cons (hx0.mono x2) hes, q2, fun F3 H3 d v w3 hr q3 => ?_, xo L F2 H2 ρ2 σ w2 r2⟩
  have s := w2.call w3
  exact k F3 H3 ρ2 d v s.wd (x1.trans (x2.trans s.ext)) (s.st _ _ r2) hr q3
theorem dmethG0 (G : Mg CX X.prog X.w X.K X.mg X.base C m k n sp) (hr : Room k X.A) (go : Go Z X CX wc) (he : DE Z X o a) {pl : Sem Bool}
    (ht : eval (.Call (.Attribute o m apos) [] [] pos) X.env = (do
      let ov ← eval o X.env; standAt apos.atName; let (f, first) ← holding [ov] (getMethod ov m pl); callWith pos f first (backTo pos (starEach [] X.env)) (backToKw pos (keywordEach [] X.env))) := by rfl) :
    DE Z X (.Call (.Attribute o m apos) [] [] pos) (dMeth C m (spN n sp) wc a dNil) := by
  obtain ⟨g, fd, ps, G1, M, b, hn⟩ := G.ex
  obtain ⟨E, hx, xo⟩ := go.ex
  refine ⟨pe_imp (pe_methZ0 he.pe G.c M G1 hr b hx ht) fun σ H Q h => ?_⟩
  obtain ⟨L, F, ρ, Q', wd, r, q, k⟩ := h
  refine ⟨L, F, ρ, _, wd, r, q, fun F1 H1 ρ1 dx x w1 x1 r1 hx ⟨⟨ns, ds, ex, hn⟩, q1⟩ => ?_⟩
  subst ex
  have hx0 := hx
  obtain ⟨b, dx, fs, rfl, ff, rfl, hs⟩ := rep_obj.mp hx
  refine ⟨b, dx, fs, rfl, w1.ins ff, hn.look, F1, _, _, _, w1.again, Reps.cons hx0 Reps.nil, q1, fun F3 H3 d v w3 hr q3 => ?_, xo L F1 H1 ρ1 σ w1 r1⟩
  have s := w1.call w3
  exact k F3 H3 ρ1 d v s.wd (x1.trans s.ext) (s.st _ _ r1) hr q3
end

/-- the promise of an __init__: from the arguments ds to the object's data -/
def spI (C : Addr) (sp : DSp) : Sp := fun vs H Q E => ∃ (F : Wo) (H1 : Hp) (ds : List DV) (Q' : DV → Prop) (E' : ED) (a dx : Addr) (ws : List V), vs = .ref a :: ws ∧ H1 a = none ∧ H1 dx = none ∧ dx ≠ a ∧ H = upd (upd H1 dx (.own a)) a (.ins C dx []) ∧ Wd (b0 F H1) F H1 ∧ Reps F ds ws ∧ sp ds Q' E' ∧
  (∀ F' H' d, Wd (b0 F H1) F' H' → Rep F' d (.ref a) → Q' d → Q .non H') ∧ XOk F H1 E' E
/-- a class that can be made -/
structure Kg (CX : CXT) (P : Program) (w : World) (K : PySem.W.Frag) (mg : Str → Option Value) (base : Heap) (x : Str) (C : Addr) (k : Nat) (n : Nat) (sp : DSp) : Prop where
  m : mg x = some (.ref C)
  ex : ∃ (f : Addr) (fd : FuncData) (ps : List Str), FnOk P w K mg base CX k f fd ps (spI C (spN n sp)) ∧ Mk K C f ∧ Binds K fd ps [] ∧ ps.length = n + 1
section
variable {CX : CXT} {wc : WD} {sp : DSp}
theorem dmakeG (G : Kg CX X.prog X.w X.K X.mg X.base x C k n sp) (hr : Room (k + 1) X.A) (go : Go Z X CX wc) (ha : DA Z X (e :: es) t) (hg : Gl X x := by rfl) (hdb : (x == ("__debug__" : Str)) = false := by decide)
    (he : starEach (e :: es) X.env = (false, eval e X.env) :: starEach es X.env := by rfl) (hpl : (backTo pos (starEach es X.env)).any (·.1) = false := by rfl) : DE Z X (.Call (.Name x p) (e :: es) [] pos) (dCallX (spN n sp) wc t) := by
  obtain ⟨f, fd, ps, G1, M, b, hn⟩ := G.ex
  obtain ⟨E, hx, xo⟩ := go.ex
  refine ⟨pe_imp (pe_makeZ M G1 hr hg G.m b hx ha.pa hdb he hpl) fun σ H Q h => ?_⟩
  obtain ⟨L, F, ρ, Q', wd, r, q, k⟩ := h
  refine ⟨L, F, ρ, _, wd, r, q, fun F1 H1 ρ1 ds vs w1 x1 r1 hs q1 a dx na nd nad => ?_⟩
  refine ⟨F1, H1, ds, _, _, a, dx, vs, rfl, na, nd, nad, rfl, w1.again, hs, q1, fun F2 H2 d w2 hr q2 => ⟨rfl, ?_⟩, xo L F1 H1 ρ1 σ w1 r1⟩
  have s := w1.call w2
  exact k F2 H2 ρ1 d _ s.wd (x1.trans s.ext) (s.st _ _ r1) hr q2
end
end
end DL

namespace DL
open PySem L2

def putN (f : Str) : List Str → List Str
  | [] => [f]
  | g :: r => if g = f then g :: r else g :: putN f r
def putX (f : Str) (d : DV) : List Str → List DV → List DV
  | [], _ => [d]
  | g :: r, x :: xs => if g = f then d :: xs else x :: putX f d r xs
  | _ :: _, [] => []
theorem putF_data {F : Wo} {f : Str} {v : V} {d : DV} (hd : Rep F d v) : ∀ {fs : List (Str × V)} {ds : List DV}, Reps F ds (fs.map (·.2)) → (putF f v fs).map (·.1) = putN f (fs.map (·.1)) ∧ Reps F (putX f d (fs.map (·.1)) ds) ((putF f v fs).map (·.2))
  | [], _, _ => ⟨rfl, Reps.cons hd Reps.nil⟩
  | (g, x) :: fs, ds, h => by
    obtain ⟨d0, r, rfl⟩ : ∃ d0 r, ds = d0 :: r := by cases ds with | nil => exact absurd (reps_nil.mp h) (by simp) | cons a b => exact ⟨a, b, rfl⟩
    obtain ⟨v0, r0, e0, q, qs⟩ := reps_cons.mp h
    rw [List.map_cons] at e0
    cases e0
    have ih := putF_data (f := f) hd qs
    by_cases c : g = f
    · have e : putF f v ((g, x) :: fs) = (g, v) :: fs := by show (if g = f then _ else _) = _; rw [if_pos c]
      rw [e]
      refine ⟨by show _ = (if g = f then _ else _); rw [if_pos c]; rfl, ?_⟩
      show Reps F (if g = f then _ else _) _
      rw [if_pos c]; exact Reps.cons hd qs
    · have e : putF f v ((g, x) :: fs) = (g, x) :: putF f v fs := by show (if g = f then _ else _) = _; rw [if_neg c]
      rw [e]
      refine ⟨by show _ = (if g = f then _ else _); rw [if_neg c, List.map_cons, ih.1], ?_⟩
      show Reps F (if g = f then _ else _) _
      rw [if_neg c]; exact Reps.cons q ih.2
section
variable {Z : Zx} {X : Cx} {pos p1 p' : Pos} {e : Expr} {a : AE} {t : AA} {C : Addr} {f x : Str}
def dSetF (i : Nat) (C : Addr) (f : Str) (a : AE) : ASt := fun K ρ => a ρ fun y ρ1 => ownS ρ1 i fun d => ∃ b ns vs, d = .osa b C ns vs ∧ ns.length < 1000 ∧ K.nx (ρ1.set i (some (Lv.own (.osa b C (putN f ns) (putX f y ns vs)))))
theorem ds_setF (i : Nat) (c : Cls X.K C) (hn : NoAttr X.K C f) (h2 : DE Z X e a) (hN : X.N[i]? = some x := by rfl) (hv : Vis X.env.scope x := by first | exact Or.inl rfl | exact Or.inr (Or.inl rfl) | exact Or.inr (Or.inr rfl)) (hd : (x == ("__debug__" : Str)) = false := by decide)
    (hcd : (x == ("__classdict__" : Str)) = false := by decide) (hs : swapsWith e (some (.Attribute (.Name x p1) f p')) pos.line X.env = pure false := by rfl) : DS Z X (.Assign [.Attribute (.Name x p1) f p'] e pos) (dSetF i C f a) := by
  refine ⟨ps_imp (ps_fld (pe_var hN hv hd hcd) h2.pe hs) fun D σ H h => ?_⟩
  obtain ⟨B, F, ρ, K, w, r, q, k⟩ := h
  refine ⟨B, F, ρ, _, w, r, q, fun F1 H1 ρ1 dy y w1 x1 r1 hy q1 => ?_⟩
  unfold ownS at q1
  split at q1
  next d e2 =>
    obtain ⟨b, ns, vs, rfl, hl, q2⟩ := q1
    obtain ⟨p, hv', ho, _⟩ := r1.own i _ e2
    obtain ⟨rfl, dx, fs, hp, rfl, hr⟩ := ho
    obtain ⟨n1, n2⟩ := putF_data (f := f) hy hr
    refine ⟨_, hv', p, C, dx, fs, rfl, hp, c, hn, by simpa using hl, ?_⟩
    obtain ⟨w3, r3⟩ := r1.turn w1 (d' := .osa p C (putN f (fs.map (·.1))) (putX f dy (fs.map (·.1)) vs)) e2 hv' ⟨rfl, dx, _, upd_same, n1, n2⟩
    exact k.nx F1 _ σ _ w3 x1 r3 q2
  next => exact False.elim q1
end

def startI (n : Nat) (b C : Addr) (ds : List DV) : DSt := some (Lv.own (.osa b C [] [])) :: (ds.map (fun d => some (Lv.val d)) ++ List.replicate (n - 1 - ds.length) none)
theorem startI_rst {F : Wo} {H1 : Hp} {a dx C : Addr} {N : List Str} {ds : List DV} {ws : List V} (w : Wd (b0 F H1) F H1) (na : H1 a = none) (nd : H1 dx = none) (nad : dx ≠ a) (h : Reps F ds ws) (hN : 0 < N.length) :
    Wd (b0 F H1) F (upd (upd H1 dx (.own a)) a (.ins C dx [])) ∧ RSt (b0 F H1) F (startI N.length a C ds) (L2.start N (.ref a :: ws)) (upd (upd H1 dx (.own a)) a (.ins C dx [])) := by
  have s1 := w.loose (o := .own a) nd
  have na' : upd H1 dx (.own a) a = none := by rw [upd_ne (Ne.symm nad)]; exact na
  have s2 := s1.wd.loose (o := .ins C dx []) na'
  have hl := h.length
  have key : ∀ {i : Nat} {l : Lv}, (startI N.length a C ds)[i]? = some (some l) → (i = 0 ∧ l = .own (.osa a C [] [])) ∨ ∃ j d, i = j + 1 ∧ l = .val d ∧ ds[j]? = some d := fun {i l} e => by
    unfold startI at e
    match i, e with
    | 0, e => simp at e; exact .inl ⟨rfl, e.symm⟩
    | j + 1, e =>
      rw [List.getElem?_cons_succ] at e
      by_cases hi : j < ds.length
      · rw [List.getElem?_append_left (by simpa using hi), List.getElem?_map] at e
        cases z : ds[j]? with
        | none => rw [z] at e; cases e
        | some d => rw [z] at e; cases e; exact .inr ⟨j, d, rfl, rfl, z⟩
      · rw [List.getElem?_append_right (by simpa using hi), List.getElem?_replicate] at e
        split at e <;> cases e
  refine ⟨s2.wd, ⟨fun i d e => ?_, fun i d e => ?_, fun i j d e p hij h1 h2 _ => ?_, ?_⟩⟩
  · rcases key e with ⟨_, e1⟩ | ⟨j, d', rfl, e1, e2⟩
    · cases e1
    · cases e1
      obtain ⟨v, hv, hr⟩ := h.get e2
      refine ⟨v, ?_, hr⟩
      unfold L2.start
      rw [List.getElem?_append_left (by simpa using (List.getElem?_eq_some_iff.mp hv).1), List.getElem?_map, List.getElem?_cons_succ, hv]
      rfl
  · rcases key e with ⟨rfl, e1⟩ | ⟨j, d', rfl, e1, e2⟩
    · cases e1
      exact ⟨a, rfl, ⟨rfl, dx, [], upd_same, rfl, Reps.nil⟩, Nw.of na, w.nf na, w.nc na, rfl⟩
    · cases e1
  · rcases key h1 with ⟨rfl, _⟩ | ⟨_, _, _, e1, _⟩
    · rcases key h2 with ⟨rfl, _⟩ | ⟨_, _, _, e1, _⟩
      · exact absurd rfl hij
      · cases e1
    · cases e1
  · unfold startI L2.start
    simp only [List.length_cons, List.length_append, List.length_map, List.length_replicate]
    omega
section
variable {P : Program} {w : World} {K : PySem.W.Frag} {mg : Str → Option Value} {base : Heap}
/-- how an __init__ ends: its object is full -/
def IniEnd (Q : DV → Prop) (b C : Addr) (ρ : DSt) : Prop := ∃ ns vs, ρ[0]? = some (some (Lv.own (.osa b C ns vs))) ∧ Q (.obj C ns vs)
theorem dini_okX {x qual : Str} {st : Stmt} {f C : Addr} {fd : FuncData} {N ps : List Str} {k n : Nat} {sp : DSp} (Fn : Fun K x qual st f fd) (S : FnScope N ps (defScope st)) (hps : ps.length = n + 1) (hN : 0 < N.length) {a : WD → ASt}
    (hbody : ∀ (F0 : Wo) (H0 : Hp) (W : WX) (w' : WD) (lk : Lk F0 H0 W w') (cdv : Value) (A : Around) (outer : List Env) (s : Shared) (H : Hp) (E : XK), Room k (A.deeper (PyProof.Rows.envOfC qual (defScope st) s.heap.objs.size f cdv)) →
      Takes (cxX P w K mg base N qual st f cdv A outer s H E) W → DSs ⟨F0, H0, W, w', lk⟩ (cxX P w K mg base N qual st f cdv A outer s H E) (defBody st) (a w'))
    (hsp : ∀ b ds Q E, sp ds Q E → a (fun C ns vs _ => E C ns vs) { nx := IniEnd Q b C, rt := fun _ _ => False } (startI N.length b C ds)) : FnOk P w K mg base (L2.CX P w) (k + 1) f fd ps (spI C (spN n sp)) := by
  refine Fn.okX S (fun vs H Q E ⟨F, H1, ds, Q', E', b, dx, ws, e, _, _, _, _, _, hr, hs, _⟩ => by rw [e, List.length_cons, ← hr.length, hs.1, hps]) fun cdv A outer s H vs Q E hroom h => ?_
  obtain ⟨F, H1, ds, Q', E', b, dx, ws, rfl, na, nd, nad, rfl, w0, hr, hs, hq, hx⟩ := h
  have lk : Lk F H1 (fun cls d _ H' => E cls d H') (fun C ns vs _ => E' C ns vs) := fun L F' H' ρ' σ' C dd fs ds wd _ hf hs' hE => hx F' H' C dd fs ds wd.noL hf hs' hE
  obtain ⟨w1, r1⟩ := startI_rst (C := C) (N := N) w0 na nd nad hr hN
  refine ⟨_, (hbody F H1 (fun cls d _ H' => E cls d H') (fun C ns vs _ => E' C ns vs) lk cdv A outer s _ E hroom (takes_of rfl rfl rfl rfl)).ps, fun _ => none, F, _, _, w1, r1, hsp b ds (fun d => Q' d) E' hs.2, ⟨?_, ?_, ?_, ?_, fun _ _ _ _ _ _ _ _ z => z.elim⟩⟩
  · rintro F' H' σ' ρ' w' x' r' ⟨ns, vs, e, hQ⟩
    obtain ⟨p, o, hs', wf, xf, rf, rp⟩ := w'.freeze r' e
    obtain ⟨ep, dx', fs, ff, en, hr'⟩ := rep_osa.mp rp
    cases ep
    exact hq _ H' _ wf (rep_obj.mpr ⟨_, dx', fs, rfl, ff, en, hr'⟩) hQ
  · exact fun _ _ _ _ _ _ _ q' => False.elim q'
  · exact fun _ _ _ _ _ _ _ q' => False.elim q'
  · exact fun _ _ _ _ _ _ _ _ _ _ q' => False.elim q'
end

def dDcW0 (g : AG) (tt : AT) (tk tv : AE) (vs : List Nat) (fin : List Key → List DV → DSt → Prop) : List DV → List Key → List DV → DSt → Prop
  | [], ks, xs, ρ => fin ks xs ρ
  | d :: ds, ks, xs, ρ => g d ρ fun ρ2 => tt ρ2 fun b ρ3 => if b = true then tk ρ3 fun y ρ4 => tv ρ4 fun z ρ5 => ∃ k, keyD y = some k ∧ ks.length < sizeLine ∧ dDcW0 g tt tk tv vs fin ds (putD ks xs k z).1 (putD ks xs k z).2 (wipeD ρ5 vs) else dDcW0 g tt tk tv vs fin ds ks xs (wipeD ρ3 vs)
@[irreducible] def dDcW (g : AG) (tt : AT) (tk tv : AE) (vs : List Nat) (fin : List Key → List DV → DSt → Prop) (ds : List DV) (ks : List Key) (xs : List DV) (ρ : DSt) : Prop := dDcW0 g tt tk tv vs fin ds ks xs ρ
section
variable {g : AG} {tt : AT} {tk tv : AE} {vs : List Nat} {fin : List Key → List DV → DSt → Prop} {ds xs : List DV} {ks : List Key} {d : DV} {ρ : DSt}
theorem dDcW_nil : dDcW g tt tk tv vs fin [] ks xs ρ = fin ks xs ρ := by unfold dDcW; rfl
theorem dDcW_cons : dDcW g tt tk tv vs fin (d :: ds) ks xs ρ = g d ρ fun ρ2 => tt ρ2 fun b ρ3 => if b = true then tk ρ3 fun y ρ4 => tv ρ4 fun z ρ5 => ∃ k, keyD y = some k ∧ ks.length < sizeLine ∧ dDcW g tt tk tv vs fin ds (putD ks xs k z).1 (putD ks xs k z).2 (wipeD ρ5 vs) else dDcW g tt tk tv vs fin ds ks xs (wipeD ρ3 vs) := by unfold dDcW; rfl
theorem dDcW_ind (I : List DV → List Key → List DV → DSt → Prop) (h0 : I ds ks xs ρ) (hn : ∀ ks xs ρ, I [] ks xs ρ → fin ks xs ρ)
    (hc : ∀ (d : DV) (r : List DV) (ks : List Key) (xs : List DV) (ρ : DSt) (W : List Key → List DV → DSt → Prop), (∀ ks' xs' ρ', I r ks' xs' ρ' → W ks' xs' ρ') → I (d :: r) ks xs ρ →
      g d ρ fun ρ2 => tt ρ2 fun b ρ3 => if b = true then tk ρ3 fun y ρ4 => tv ρ4 fun z ρ5 => ∃ k, keyD y = some k ∧ ks.length < sizeLine ∧ W (putD ks xs k z).1 (putD ks xs k z).2 (wipeD ρ5 vs) else W ks xs (wipeD ρ3 vs)) : dDcW g tt tk tv vs fin ds ks xs ρ := by
  induction ds generalizing ks xs ρ with
  | nil => rw [dDcW_nil]; exact hn ks xs ρ h0
  | cons d r ih => rw [dDcW_cons]; exact hc d r ks xs ρ (fun ks' xs' ρ' => dDcW g tt tk tv vs fin r ks' xs' ρ') (fun _ _ _ h => ih h) h0
end
def dDc (ai : AI) (g : AG) (tt : AT) (tk tv : AE) (vs : List Nat) : AE := fun ρ Q => ai ρ fun ds ρ1 => dDcW g tt tk tv vs (fun ks xs ρ2 => Q (.dic ks xs) (merge ρ1 ρ2 vs)) ds [] [] (wipeD ρ1 vs)
section
variable {Z : Zx} {X : Cx} {pos : Pos} {tg : Expr}
inductive DcI (Z : Zx) (B : Addr → Option HO) (D : Addr) (F1 : Wo) (σ : St) (vs : List Nat) (c : List Key → List DV → DSt → Prop) (H2 : Hp) : Prop
  | mk (F2 : Wo) (ρ2 : DSt) (xs : List DV) (kvs : List (Key × V)) (w2 : Wd ((Z.b B).loose D (.dK kvs)) F2 H2) (x2 : Ext F1 F2) (r2 : RSt ((Z.b B).loose D (.dK kvs)) F2 ρ2 (wipe σ vs) H2) (ha : Reps F2 xs (kvs.map (·.2))) (q : c (kvs.map (·.1)) xs ρ2) : DcI Z B D F1 σ vs c H2
theorem lift_dc {ai : AI} {js vs : List Nat} {g : AG} {tt : AT} {tk tv : AE} {σ : St} {H : Hp} {Q : VK} (hj : ∀ j ∈ js, j ∈ vs) (h : tD Z (dDc ai g tt tk tv vs) σ H Q) : tDc (tDI Z ai) (tDG Z js g) (tDT Z tt) (tD Z tk) (tD Z tv) vs σ H Q := by
  obtain ⟨B, F, ρ, Q', w, r, q, k⟩ := h
  refine ⟨B, F, ρ, _, w, r, q, fun F1 H1 ρ1 ds J w1 x1 r1 io q1 D hD => ?_⟩
  obtain ⟨wl, rl⟩ := w1.loosen (o := .dK []) hD
  refine ⟨fun i m H2 => i + m = ds.length ∧ DcI Z B D F1 σ vs (dDcW g tt tk tv vs (fun ks xs ρ2 => Q' (.dic ks xs) (merge ρ1 ρ2 vs)) (ds.drop i)) H2,
    ⟨ds.length, by omega, F1, wipeD ρ1 vs, [], [], wl, Ext.refl F1, (rl _ _ r1).wipe vs, Reps.nil, q1⟩, ?_⟩
  rintro i m H2 ⟨hm, F2, ρ2, xs, kvs, w2, x2, r2, ha, q2⟩
  by_cases hi : i < ds.length
  · refine .inr ⟨io.go _ F2 H2 i w2 x2 hi, DcI Z B D F1 σ vs (dDcW g tt tk tv vs (fun ks xs ρ2 => Q' (.dic ks xs) (merge ρ1 ρ2 vs)) (ds.drop (i + 1))), fun H' z => ⟨m - 1, by omega, by omega, z⟩, fun x H' y => ?_⟩
    obtain ⟨F3, d, s3, hd, hr⟩ := io.yld _ F2 H2 i x H' w2 x2 hi y
    have hde : ds.drop i = d :: ds.drop (i + 1) := by
      rw [List.drop_eq_getElem_cons hi]
      rw [List.getElem?_eq_getElem hi] at hd
      cases hd
      rfl
    rw [hde, dDcW_cons] at q2
    have x13 := x2.trans s3.ext
    refine ⟨_, F3, ρ2, d, _, s3.wd, s3.st _ _ r2, hr, q2, fun F4 H4 σ4 ρ4 w4 x4 r4 q4 b4 => ⟨wipe_ext b4 hj, ?_⟩⟩
    have ew := wipe_ext b4 hj
    refine ⟨_, F4, ρ4, _, w4, r4, q4, fun F5 H5 ρ5 b w5 x5 r5 q5 => ?_⟩
    cases b with
    | true =>
      rw [if_pos rfl] at q5 ⊢
      refine ⟨_, F5, ρ5, _, w5, r5, q5, fun F6 H6 ρ6 y vy w6 x6 r6 hy q6 => ?_⟩
      refine ⟨_, F6, ρ6, _, w6, r6, q6, fun F7 H7 ρ7 z vz w7 x7 r7 hz ⟨kk, ek, hl, q7⟩ => ?_⟩
      obtain ⟨w8, r8⟩ := Wd.reloose (B := Z.b B) (p := D) (o := .dK kvs) (u := .dK (putK kvs kk vz)) w7
      have ha7 := ha.mono (s3.ext.trans (x4.trans (x5.trans (x6.trans x7))))
      obtain ⟨n1, n2⟩ := putK_keys (k := kk) ha7 hz
      refine ⟨kvs, kk, rep_key hy ek, (w7.lo D _ (if_pos rfl)).1, by simpa using hl, F7, _, _, putK kvs kk vz, w8, x13.trans (x4.trans (x5.trans (x6.trans x7))), ?_, n2, by rw [n1]; exact q7⟩
      have := (r8 _ _ r7).wipe vs
      rw [ew] at this
      exact this
    | false =>
      rw [if_neg Bool.false_ne_true] at q5 ⊢
      have := r5.wipe vs
      rw [ew] at this
      exact ⟨F5, _, xs, kvs, w5, x13.trans (x4.trans x5), this, ha.mono (s3.ext.trans (x4.trans x5)), q5⟩
  · have e0 : i = ds.length := by omega
    subst e0
    rw [List.drop_length, dDcW_nil] at q2
    obtain ⟨w7, x7, r7⟩ := Wd.fix (B := Z.b B) (p := D) (o := .dK kvs) w2 (w1.nl hD)
    exact .inl ⟨io.stop _ F2 H2 w2 x2, k _ _ _ _ _ w7 (x1.trans (x2.trans x7)) (r1.merge (x2.trans x7) (r7 _ _ r2)) (rep_dic.mpr ⟨D, kvs, rfl, Wo.add_same, rfl, ha.mono x7⟩) q2⟩
theorem de_dc {kx vx iter : Expr} {ifs : List Expr} {scope : Scope} {own : List (Str × Nat)} {ai : AI} {js : List Nat} {g : AG} {tt : AT} {tk tv : AE} (hc : X.calm = true) (hN : X.N.Nodup) (hi : DI Z X tg iter ai) (ok : BlkOk X.N X.env.scope scope own)
    (hg : ∀ (s : Shared) (H : Hp) (C : Addr) (cl : List (Str × Addr)) (fp : List Addr), DG Z (X.blk s H scope (compEnvC scope cl C X.env) fp) js tg g) (ht : ∀ (s : Shared) (H : Hp) (C : Addr) (cl : List (Str × Addr)) (fp : List Addr), DTs Z (X.blk s H scope (compEnvC scope cl C X.env) fp) ifs tt)
    (hk : ∀ (s : Shared) (H : Hp) (C : Addr) (cl : List (Str × Addr)) (fp : List Addr), DE Z (X.blk s H scope (compEnvC scope cl C X.env) fp) kx tk) (he : ∀ (s : Shared) (H : Hp) (C : Addr) (cl : List (Str × Addr)) (fp : List Addr), DE Z (X.blk s H scope (compEnvC scope cl C X.env) fp) vx tv)
    (hj : ∀ j ∈ js, j ∈ own.map (·.2) := by decide) (hs : ∀ x, foldedSetIterable iter X.env x = pure x := by intro _; rfl) : DE Z X (.DictComp kx vx [⟨tg, iter, ifs, 0⟩] scope pos) (dDc ai g tt tk tv (own.map (·.2))) :=
  ⟨pe_imp (pe_dc hc hN hi.pi ok (fun s H C cl fp => (hg s H C cl fp).pg) (fun s H C cl fp => (ht s H C cl fp).pt) (fun s H C cl fp => (hk s H C cl fp).pe) (fun s H C cl fp => (he s H C cl fp).pe) hs) fun _ _ _ h => lift_dc hj h⟩
end

def fSort0 (ds : List DV) (Q : DV → Prop) : Prop := match ds with
  | [.lst xs] => fSorted [.lst xs] Q
  | [.dic ks _] => ∃ ss : List Str, ks = ss.map Sum.inr ∧ ss.length < 64 ∧ ∀ ys : List Str, ys.Perm ss → PyProof.Rows.sortedS ys = true → Q (.lst (ys.map DV.str))
  | _ => False
/-- (not unfolded by itself) -/
@[irreducible] def fSort (ds : List DV) (Q : DV → Prop) : Prop := fSort0 ds Q
theorem fSort_is {ds : List DV} {Q : DV → Prop} : fSort ds Q = fSort0 ds Q := by unfold fSort; rfl
def rSortG (K : PySem.W.Frag) : List V → Hp → VK → Prop := fun vs H Q => (rSortedS K vs H Q ∨ rSortedI K vs H Q) ∨ ∃ (a : Addr) (kvs : List (Key × V)) (ks : List Str), vs = [.ref a] ∧ Rd H a (.dK kvs) ∧ kvs.map (·.1) = ks.map Sum.inr ∧ ks.length < 64 ∧
    ∀ ys p, ys.Perm ks → PyProof.Rows.sortedS ys = true → H p = none → Q (.ref p) (upd H p (.lst (ys.map V.str)))
theorem co_sort {X : Cx} (hc : X.calm = true) : CallR X (.builtin "sorted") (rSortG X.K) := CallR.or co_sorted (call_sortedD hc)
theorem cd_sort {K : PySem.W.Frag} : ClD (rSortG K) fSort := by
  intro B F H xs ds Q Q' w hs h k
  rw [fSort_is] at h
  match ds, h with
  | [.lst es], h => exact .inl (cd_sorted B F H xs _ Q Q' w hs h k)
  | [.dic ks es], h =>
    obtain ⟨ss, rfl, hl, h⟩ := h
    obtain ⟨v, r, rfl, hv, hr⟩ := reps_cons.mp hs
    obtain ⟨p, kvs, rfl, f, e, q⟩ := rep_dic.mp hv
    rw [reps_nil.mp hr]
    refine .inr ⟨p, kvs, ss, rfl, w.rdD f, e, hl, fun ys l h1 h2 hl => ?_⟩
    obtain ⟨s, hr⟩ := Stp.lstN w hl (strs_reps ys)
    exact k _ _ _ _ s hr (h ys h1 h2)
end DL

namespace DL
open PySem L2

theorem RSt.let_go {B : Bs} {F : Wo} {ρ : DSt} {σ : L2.St} {H : Hp} (r : RSt B F ρ σ H) : ∀ vs : List Nat, RSt B F (wipeD ρ vs) σ H
  | [] => r
  | v :: vs => (r.let_go vs).drop v
/-- what follows sees the slots vs no more -/
def dWp (vs : List Nat) (t : ASt) : ASt := fun K ρ => t { nx := fun ρ' => K.nx (wipeD ρ' vs), rt := K.rt, bk := fun ρ' => K.bk (wipeD ρ' vs), ct := fun ρ' => K.ct (wipeD ρ' vs), ro := K.ro } ρ
section
variable {Z : Zx} {X : Cx} {st : Stmt} {s : List Stmt} {t : ASt}
theorem eok_wp {B : Bs} {F : Wo} {K : DEnds} {D : Ends} (vs : List Nat) (k : EOk B F K D) : EOk B F { nx := fun ρ' => K.nx (wipeD ρ' vs), rt := K.rt, bk := fun ρ' => K.bk (wipeD ρ' vs), ct := fun ρ' => K.ct (wipeD ρ' vs), ro := K.ro } D :=
  ⟨fun F' H' σ' ρ' w x r q => k.nx F' H' σ' _ w x (r.let_go vs) q, fun F' H' σ' ρ' w x r q => k.bk F' H' σ' _ w x (r.let_go vs) q, fun F' H' σ' ρ' w x r q => k.ct F' H' σ' _ w x (r.let_go vs) q, k.rt, k.ro⟩
theorem ds_wp (vs : List Nat) (h : DS Z X st t) : DS Z X st (dWp vs t) := ⟨ps_imp h.ps fun D σ H ⟨B, F, ρ, K, w, r, q, k⟩ => ⟨B, F, ρ, _, w, r, q, eok_wp vs k⟩⟩
theorem dss_wp (vs : List Nat) (h : DSs Z X s t) : DSs Z X s (dWp vs t) := ⟨pss_imp h.ps fun D σ H ⟨B, F, ρ, K, w, r, q, k⟩ => ⟨B, F, ρ, _, w, r, q, eok_wp vs k⟩⟩
/-- a walk whose turns start without the slots vs -/
def dIw (vs : List Nat) (a : AI) : AI := fun ρ Q => a ρ fun ds ρ1 => Q ds (wipeD ρ1 vs)
theorem di_wp {tg e : Expr} {a : AI} (vs : List Nat) (h : DI Z X tg e a) : DI Z X tg e (dIw vs a) :=
  ⟨⟨fun pins s σ H R I ⟨L, F, ρ, Q', w, r, q, k⟩ => h.pi.run pins s σ H R I ⟨L, F, ρ, _, w, r, q, fun F' H' ρ' ds J w' x' r' io q' => k F' H' _ ds J w' x' (r'.let_go vs) io q'⟩⟩⟩
end

abbrev BindM (st : Stmt) (m q : Str) (ps : List Str) : Prop := ∀ (kV doc pm : Value) (an : Option Addr) (cdv ct : Value) (us : List Value), us.length = ps.length → bindArgs (PySem.W.fnOf m q (defArgs st) (defBody st) (defScope st) .none kV doc pm an cdv ct) ⟨us, []⟩ = pure (ps.zip us)
structure TxM (K : PySem.W.Frag) (C : Addr) (m q : Str) (st : Stmt) : Prop where
  ex : ∃ (f : Addr) (fd : FuncData), Fun K m q st f fd ∧ Meth K C m f
structure TxI (K : PySem.W.Frag) (mg : Str → Option Value) (x : Str) (C : Addr) (q : Str) (st : Stmt) : Prop where
  m : mg x = some (.ref C)
  ex : ∃ (f : Addr) (fd : FuncData), Fun K "__init__" q st f fd ∧ Mk K C f
section
variable {P : Program} {w : World} {K : PySem.W.Frag} {mg : Str → Option Value} {base : Heap} {C : Addr} {m q x : Str} {st : Stmt} {N ps : List Str} {k n : Nat} {sp : DSp}
theorem dmet_ok (c : Cls K C) (T : TxM K C m q st) (S : FnScope N ps (defScope st)) (hb : BindM st m q ps) {a : ASt}
    (hbody : ∀ (f : Addr) (Z : Zx) (cdv : Value) (A : Around) (outer : List Env) (s : Shared) (H : Hp) (E : XK), Room k (A.deeper (PyProof.Rows.envOfC q (defScope st) s.heap.objs.size f cdv)) →
      DSs Z (cxOf CX0 P w K mg base N q (defScope st) f cdv A outer s H E).nox (defBody st) a)
    (hsp : ∀ ds Q E, sp ds Q E → a { nx := fun _ => Q .non, rt := fun d _ => Q d } (startD N.length ds)) : Mg CX0 P w K mg base C m (k + 1) ps.length sp := by
  obtain ⟨f, fd, F, M⟩ := T.ex
  exact ⟨c, f, fd, ps, dfn_ok F S (fun _ _ _ h => h.1) (hbody f) (fun ds Q E h => hsp ds Q E h.2), M, F.binds hb, rfl⟩
theorem dmet_okX (c : Cls K C) (T : TxM K C m q st) (S : FnScope N ps (defScope st)) (hb : BindM st m q ps) {a : WD → ASt}
    (hbody : ∀ (f : Addr) (F0 : Wo) (H0 : Hp) (W : WX) (w' : WD) (lk : Lk F0 H0 W w') (cdv : Value) (A : Around) (outer : List Env) (s : Shared) (H : Hp) (E : XK), Room k (A.deeper (PyProof.Rows.envOfC q (defScope st) s.heap.objs.size f cdv)) →
      Takes (cxX P w K mg base N q st f cdv A outer s H E) W → DSs ⟨F0, H0, W, w', lk⟩ (cxX P w K mg base N q st f cdv A outer s H E) (defBody st) (a w'))
    (hsp : ∀ ds Q E, sp ds Q E → a (fun C ns vs _ => E C ns vs) { nx := fun _ => Q .non, rt := fun d _ => Q d } (startD N.length ds)) : Mg (L2.CX P w) P w K mg base C m (k + 1) ps.length sp := by
  obtain ⟨f, fd, F, M⟩ := T.ex
  exact ⟨c, f, fd, ps, dfn_okX F S (fun _ _ _ h => h.1) (hbody f) (fun ds Q E h => hsp ds Q E h.2), M, F.binds hb, rfl⟩
theorem dmak_okX (T : TxI K mg x C q st) (S : FnScope N ps (defScope st)) (hb : BindM st "__init__" q ps) (hps : ps.length = n + 1) (hN : 0 < N.length) {a : WD → ASt}
    (hbody : ∀ (f : Addr) (F0 : Wo) (H0 : Hp) (W : WX) (w' : WD) (lk : Lk F0 H0 W w') (cdv : Value) (A : Around) (outer : List Env) (s : Shared) (H : Hp) (E : XK), Room k (A.deeper (PyProof.Rows.envOfC q (defScope st) s.heap.objs.size f cdv)) →
      Takes (cxX P w K mg base N q st f cdv A outer s H E) W → DSs ⟨F0, H0, W, w', lk⟩ (cxX P w K mg base N q st f cdv A outer s H E) (defBody st) (a w'))
    (hsp : ∀ b ds Q E, sp ds Q E → a (fun C ns vs _ => E C ns vs) { nx := IniEnd Q b C, rt := fun _ _ => False } (startI N.length b C ds)) : Kg (L2.CX P w) P w K mg base x C (k + 1) n sp := by
  obtain ⟨f, fd, F, M⟩ := T.ex
  exact ⟨T.m, f, fd, ps, dini_okX F S hps hN (hbody f) hsp, M, F.binds hb, hps⟩
end

section
variable {P : Program} {w : World} {K : PySem.W.Frag} {mg : Str → Option Value} {base : Heap} {C fI : Addr} {fd : FuncData} {q : Str} {st : Stmt} {x x1 x2 f1 f2 word : Str}
theorem erc0 {p1 p2 p3 p4 : Pos} {j : Nat} (T : OexA K C) (hw : PySem.W.findIn K (.ref C) "word" = some none) (m : mg x = some (.ref C)) (iC : PySem.W.findIn K (.ref C) "__init__" = some (some (.ref fI))) (tI : PySem.W.typeIn K (.ref fI) = some (.type "function"))
    (F : Fun K "__init__" q st fI fd) (S : FnScope ["self"] ["self"] (defScope st)) (b : BindM st "__init__" q ["self"]) (hb : defBody st = [.Assign [.Attribute (.Name "self" p1) "word" p2] (.Constant (.str word) j p3) p4]) : Erc P w K mg base x C [("word", .inr word)] 0 :=
  ⟨T, m, fI, fd, ["self"], iC, tI, ini0 ⟨T, fun q hq => by rw [List.mem_singleton.mp hq]; exact hw⟩ F S hb, F.binds b, rfl⟩
theorem erc1 {p1 p2 p3 p4 p5 p6 p7 p8 : Pos} {j : Nat} (T : OexA K C) (hw : PySem.W.findIn K (.ref C) "word" = some none) (h1 : PySem.W.findIn K (.ref C) f1 = some none) (m : mg x = some (.ref C)) (iC : PySem.W.findIn K (.ref C) "__init__" = some (some (.ref fI))) (tI : PySem.W.typeIn K (.ref fI) = some (.type "function"))
    (F : Fun K "__init__" q st fI fd) (S : FnScope ["self", x1] ["self", x1] (defScope st)) (b : BindM st "__init__" q ["self", x1])
    (hb : defBody st = [.Assign [.Attribute (.Name "self" p1) f1 p2] (.Name x1 p3) p4, .Assign [.Attribute (.Name "self" p5) "word" p6] (.Constant (.str word) j p7) p8])
    (hd : (x1 == ("__debug__" : Str)) = false := by decide) (hcd : (x1 == ("__classdict__" : Str)) = false := by decide) : Erc P w K mg base x C [("word", .inr word), (f1, .inl 0)] 1 :=
  ⟨T, m, fI, fd, ["self", x1], iC, tI, ini1 ⟨T, fun q hq => (List.mem_cons.mp hq).elim (fun e => by rw [e]; exact hw) (fun e => by rw [List.mem_singleton.mp e]; exact h1)⟩ F S hb hd hcd, F.binds b, rfl⟩
end
/-- loops in a def that errors may leave -/
theorem dforX {Z : Zx} {X : Cx} {tg e : Expr} {pos : Pos} {body : List Stmt} {ai : AI} {js : List Nat} {g : AG} {t : ASt} (hp : PassesOwn (model X.prog X.w) X.A X.env X.xe) (hc : X.calm = true) (hi : DI Z X tg e ai) (hg : DG Z X js tg g) (hb : DSs Z X body t)
    (hs : ∀ x, foldedSetIterable e X.env x = pure x := by intro _; rfl) : DS Z X (.For tg e body [] pos) (dFor ai g t) := ds_for hc hi hg hb hp hs
end DL

namespace DL
open PySem L2

/-- a loose object is handed on -/
theorem Wd.unloose {B : Bs} {F : Wo} {H : Hp} {p : Addr} {o : HO} (w : Wd (B.loose p o) F H) (hn : B.L p = none) : Wd B F H ∧ (∀ ρ σ, RSt (B.loose p o) F ρ σ H → RSt B F ρ σ H) ∧ (Nw B.H p ∧ F.fz p = none ∧ F.ce p = none ∧ B.L p = none) ∧ ((B.loose p o).L p = none → False) ∧ H p = some o := by
  have hl : (B.loose p o).L p = some o := if_pos rfl
  obtain ⟨hp, b0, n1, n2⟩ := w.lo p o hl
  refine ⟨⟨w.ext, w.fz, w.ce, w.nfz, w.nce, w.fr, w.dj, fun a u e => ?_, w.lk, w.nt, fun a u e => ?_⟩, fun ρ σ r => ⟨r.val, fun i d e => ?_, r.dis, r.len⟩, ⟨b0, n1, n2, hn⟩, (fun e => nomatch hl.symm.trans e), hp⟩
  · have n : a ≠ p := fun z => by rw [z, hn] at e; cases e
    exact w.lo a u (by show (if a = p then some o else B.L a) = some u; rw [if_neg n]; exact e)
  · have n : a ≠ p := fun z => by rw [z, hn] at e; cases e
    exact w.lt a u (by show (if a = p then some o else B.L a) = some u; rw [if_neg n]; exact e)
  · obtain ⟨a, h, q, c0, m1, m2, m3⟩ := r.own i d e
    have m3 : (if a = p then some o else B.L a) = none := m3
    have n : a ≠ p := fun z => by rw [if_pos z] at m3; cases m3
    rw [if_neg n] at m3
    exact ⟨a, h, q, c0, m1, m2, m3⟩
section
variable {Z : Zx} {X : Cx} {pos : Pos} {tg : Expr}
/-- [.. for .. in ..] for a local to keep -/
theorem lift_lcN {ai : AI} {js vs : List Nat} {g : AG} {tt : AT} {te : AE} {σ : St} {H : Hp} {Q : VK} (hj : ∀ j ∈ js, j ∈ vs) (h : tDN Z (dLc ai g tt te vs) σ H Q) : tLc (tDI Z ai) (tDG Z js g) (tDT Z tt) (tD Z te) vs σ H Q := by
  obtain ⟨B, F, ρ, Q', w, r, q, k⟩ := h
  refine ⟨B, F, ρ, _, w, r, q, fun F1 H1 ρ1 ds J w1 x1 r1 io q1 D hD => ?_⟩
  obtain ⟨hz, q1⟩ := q1
  obtain ⟨wl, rl⟩ := w1.loosen (o := .lst []) hD
  refine ⟨fun i m H2 => i + m = ds.length ∧ LcI Z B D F1 σ vs i (dLcW g tt te vs (fun acc ρ2 => Q' (.lst acc) (merge ρ1 ρ2 vs)) (ds.drop i)) H2,
    ⟨ds.length, by omega, F1, wipeD ρ1 vs, [], [], wl, Ext.refl F1, (rl _ _ r1).wipe vs, Reps.nil, Nat.le_refl 0, q1⟩, ?_⟩
  rintro i m H2 ⟨hm, F2, ρ2, acc, av, w2, x2, r2, ha, hal, q2⟩
  by_cases hi : i < ds.length
  · refine .inr ⟨io.go _ F2 H2 i w2 x2 hi, LcI Z B D F1 σ vs (i + 1) (dLcW g tt te vs (fun acc ρ2 => Q' (.lst acc) (merge ρ1 ρ2 vs)) (ds.drop (i + 1))), fun H' z => ⟨m - 1, by omega, by omega, z⟩, fun x H' y => ?_⟩
    obtain ⟨F3, d, s3, hd, hr⟩ := io.yld _ F2 H2 i x H' w2 x2 hi y
    have hde : ds.drop i = d :: ds.drop (i + 1) := by
      rw [List.drop_eq_getElem_cons hi]
      rw [List.getElem?_eq_getElem hi] at hd
      cases hd
      rfl
    rw [hde, dLcW_cons] at q2
    have x13 := x2.trans s3.ext
    refine ⟨_, F3, ρ2, d, _, s3.wd, s3.st _ _ r2, hr, q2, fun F4 H4 σ4 ρ4 w4 x4 r4 q4 b4 => ⟨wipe_ext b4 hj, ?_⟩⟩
    have ew := wipe_ext b4 hj
    refine ⟨_, F4, ρ4, _, w4, r4, q4, fun F5 H5 ρ5 b w5 x5 r5 q5 => ?_⟩
    cases b with
    | true =>
      rw [if_pos rfl] at q5 ⊢
      refine ⟨_, F5, ρ5, _, w5, r5, q5, fun F6 H6 ρ6 y vy w6 x6 r6 hy q6 => ?_⟩
      obtain ⟨w7, r7⟩ := Wd.reloose (B := Z.b B) (p := D) (o := .lst av) (u := .lst (av ++ [vy])) w6
      refine ⟨av, (w6.lo D _ (if_pos rfl)).1, by rw [← ha.length]; omega, F6, _, acc ++ [y], av ++ [vy], w7, x13.trans (x4.trans (x5.trans x6)), ?_, (ha.mono (s3.ext.trans (x4.trans (x5.trans x6)))).append (Reps.cons hy Reps.nil), by simp; omega, q6⟩
      have := (r7 _ _ r6).wipe vs
      rw [ew] at this
      exact this
    | false =>
      rw [if_neg Bool.false_ne_true] at q5 ⊢
      have := r5.wipe vs
      rw [ew] at this
      exact ⟨F5, _, acc, av, w5, x13.trans (x4.trans x5), this, ha.mono (s3.ext.trans (x4.trans x5)), by omega, q5⟩
  · have e0 : i = ds.length := by omega
    subst e0
    rw [List.drop_length, dLcW_nil] at q2
    obtain ⟨w7, r7, lo, dj, e7⟩ := Wd.unloose (B := Z.b B) (p := D) (o := .lst av) w2 (w1.nl hD)
    have rr := r1.merge x2 (r7 _ _ r2)
    refine .inl ⟨io.stop _ F2 H2 w2 x2, k F2 _ _ (.lst acc) D w7 (x1.trans x2) rr ⟨av, e7, ha⟩ lo (fun j e hj' hs => ?_) q2⟩
    rcases merge_some hj' with ⟨nj, h2⟩ | ⟨_, h2, _⟩
    · obtain ⟨p2, hs2, _, _, _, _, l2⟩ := r2.own j e h2
      rw [wipe_out nj, hs] at hs2
      cases hs2
      exact dj l2
    · cases h2
theorem ds_setLcO {i : Nat} {y : Str} {py spos : Pos} {elt iter : Expr} {ifs : List Expr} {scope : Scope} {own : List (Str × Nat)} {ai : AI} {js : List Nat} {g : AG} {tt : AT} {te : AE} (hc : X.calm = true) (hN : X.N.Nodup) (hy : X.N[i]? = some y) (hyl : X.env.scope.names.lookup y = some .local)
    (hsw : swapsWith (.ListComp elt [⟨tg, iter, ifs, 0⟩] scope pos) (some (.Name y py)) spos.line X.env = pure true) (hi : DI Z X tg iter ai) (ok : BlkOk X.N X.env.scope scope own)
    (hg : ∀ (s : Shared) (H : Hp) (C : Addr) (cl : List (Str × Addr)) (fp : List Addr), DG Z (X.blk s H scope (compEnvC scope cl C X.env) fp) js tg g) (ht : ∀ (s : Shared) (H : Hp) (C : Addr) (cl : List (Str × Addr)) (fp : List Addr), DTs Z (X.blk s H scope (compEnvC scope cl C X.env) fp) ifs tt)
    (he : ∀ (s : Shared) (H : Hp) (C : Addr) (cl : List (Str × Addr)) (fp : List Addr), DE Z (X.blk s H scope (compEnvC scope cl C X.env) fp) elt te) (hj : ∀ j ∈ js, j ∈ own.map (·.2) := by decide) (hs : ∀ x, foldedSetIterable iter X.env x = pure x := by intro _; rfl) :
    DS Z X (.Assign [.Name y py] (.ListComp elt [⟨tg, iter, ifs, 0⟩] scope pos) spos) (dOwn i (dLc ai g tt te (own.map (·.2)))) := by
  refine ⟨ps_imp (ps_setLc hc hN hy hyl hsw hi.pi ok (fun s H C cl fp => (hg s H C cl fp).pg) (fun s H C cl fp => (ht s H C cl fp).pt) (fun s H C cl fp => (he s H C cl fp).pe) hs) fun D σ H h => ?_⟩
  obtain ⟨B, F, ρ, K, w, r, q, k⟩ := h
  refine lift_lcN hj ⟨B, F, ρ, _, w, r, q, fun F' H' ρ' d p w' x' r' ho lo hd ⟨hl, q'⟩ => ?_⟩
  exact k.nx F' H' _ _ w' x' (r'.putOwn hl ho lo.1 lo.2.1 lo.2.2.1 lo.2.2.2 (fun j e _ he => hd j e he)) q'
variable {e1 e2 : Expr} {a b : AE}
def dParVO (i j : Nat) (a b : AE) : ASt := fun K ρ => a ρ fun x ρ1 => b ρ1 fun y ρ2 => (i < ρ2.length ∧ j < ρ2.length) ∧ K.nx ((ρ2.set i (some (Lv.val x))).set j (some (Lv.own y)))
theorem ds_parVO {i j : Nat} {x y : Str} {px py pt : Pos} {kt k2 pt2} (hc : X.calm = true) (hN : X.N.Nodup) (hi : X.N[i]? = some x) (hj : X.N[j]? = some y) (hij : i ≠ j)
    (hx : X.env.scope.names.lookup x = some .local) (hy : X.env.scope.names.lookup y = some .local) (h1 : DE Z X e1 a) (h2 : DN Z X e2 b) (hw : swappedStores [.Tuple [.Name x px, .Name y py] kt pt] (.Tuple [e1, e2] k2 pt2) X.env = pure (some [x, y]))
    (s1 : starEach [e1, e2] X.env = (false, eval e1 X.env) :: starEach [e2] X.env := by rfl) (s2 : starEach [e2] X.env = (false, eval e2 X.env) :: starEach [] X.env := by rfl)
    (hs : swapsWithSole [.Tuple [.Name x px, .Name y py] kt pt] (.Tuple [e1, e2] k2 pt2) pos.line X.env = pure false := by rfl) :
    DS Z X (.Assign [.Tuple [.Name x px, .Name y py] kt pt] (.Tuple [e1, e2] k2 pt2) pos) (dParVO i j a b) := by
  refine ⟨ps_imp (ps_par hc hN hi hj hij hx hy (pa_cons h1.pe (pa_cons h2.pe pa_nil s2) s1) hw hs) fun D σ H h => ?_⟩
  obtain ⟨L, F, ρ, K, w, r, q, k⟩ := h
  refine ⟨L, F, ρ, _, w, r, q, fun F1 H1 ρ1 d v w1 x1 r1 hr q1 => ?_⟩
  refine ⟨L, F1, ρ1, _, w1, r1, q1, fun F2 H2 ρ2 d2 p w2 x2 r2 ho lo hd ⟨⟨li, lj⟩, q2⟩ => ?_⟩
  refine ⟨v, .ref p, rfl, k.nx F2 H2 _ _ w2 (x1.trans x2) ((r2.put li (hr.mono x2)).putOwn (by rw [List.length_set]; exact lj) ho lo.1 lo.2.1 lo.2.2.1 lo.2.2.2 fun j' e n he => ?_) q2⟩
  by_cases c : j' = i
  · subst c; rw [List.getElem?_set_self li] at he; cases he
  · rw [List.getElem?_set_ne (Ne.symm c)] at he
    rw [List.getElem?_set_ne (Ne.symm c)]
    exact hd j' e he
end
end DL

namespace DL
open PySem L2

def ltS (a b : Str) : Bool := Spec.ltCps a.cps.toList b.cps.toList
theorem ltC_irr : ∀ a : List Nat, Spec.ltCps a a = false
  | [] => rfl
  | x :: a => by simp [Spec.ltCps, ltC_irr a]
theorem ltC_trans : ∀ {a b c : List Nat}, Spec.ltCps a b = true → Spec.ltCps b c = true → Spec.ltCps a c = true
  | [], [], _, h, _ => by simp [Spec.ltCps] at h
  | [], _ :: _, [], _, k => by simp [Spec.ltCps] at k
  | [], _ :: _, _ :: _, _, _ => rfl
  | _ :: _, [], _, h, _ => by simp [Spec.ltCps] at h
  | _ :: _, _ :: _, [], _, k => by simp [Spec.ltCps] at k
  | x :: a, y :: b, z :: c, h, k => by
    simp only [Spec.ltCps, Bool.or_eq_true, Bool.and_eq_true, decide_eq_true_eq, beq_iff_eq] at h k ⊢
    rcases h with h | ⟨rfl, h⟩
    · rcases k with k | ⟨rfl, k⟩
      · exact .inl (by omega)
      · exact .inl h
    · rcases k with k | ⟨rfl, k⟩
      · exact .inl k
      · exact .inr ⟨rfl, ltC_trans h k⟩
theorem ltC_tri : ∀ {a b : List Nat}, Spec.ltCps a b = false → Spec.ltCps b a = false → a = b
  | [], [], _, _ => rfl
  | [], _ :: _, h, _ => by simp [Spec.ltCps] at h
  | _ :: _, [], _, k => by simp [Spec.ltCps] at k
  | x :: a, y :: b, h, k => by
    simp only [Spec.ltCps, Bool.or_eq_false_iff, Bool.and_eq_false_iff, decide_eq_false_iff_not, beq_eq_false_iff_ne] at h k
    have e : x = y := by omega
    subst e
    have := ltC_tri (h.2.resolve_left (by simp)) (k.2.resolve_left (by simp))
    rw [this]
theorem ltS_irr (a : Str) : ltS a a = false := ltC_irr _
theorem ltS_trans {a b c : Str} (h : ltS a b = true) (k : ltS b c = true) : ltS a c = true := ltC_trans h k
theorem ltS_tri {a b : Str} (h : ltS a b = false) (k : ltS b a = false) : a = b := by
  have := ltC_tri h k
  cases a with | mk a => cases b with | mk b => exact congrArg Str.mk (Array.toList_inj.mp this)
theorem ltS_asym {a b : Str} (h : ltS a b = true) : ltS b a = false := by
  cases k : ltS b a with
  | false => rfl
  | true => have := ltS_trans h k; rw [ltS_irr] at this; cases this
/-- not greater -/
theorem leS_trans {a b c : Str} (h : ltS b a = false) (k : ltS c b = false) : ltS c a = false := by
  cases z : ltS c a with
  | false => rfl
  | true =>
    cases y : ltS a b with
    | true => have := ltS_trans z y; rw [k] at this; cases this
    | false => have := ltS_tri h y; subst this; rw [k] at z; cases z
def SrtS (l : List Str) : Prop := l.Pairwise fun a b => ltS b a = false
theorem rising_pw : ∀ {l : List Str} {p : Str}, PyProof.Rows.risingS p l = true → SrtS (p :: l)
  | [], p, _ => List.pairwise_singleton _ _
  | x :: l, p, h => by
    have h' : (!ltS x p && PyProof.Rows.risingS x l) = true := h
    rw [Bool.and_eq_true] at h'
    have ih := rising_pw h'.2
    have h1 : ltS x p = false := by simpa using h'.1
    refine List.pairwise_cons.mpr ⟨fun y hy => ?_, ih⟩
    rcases List.mem_cons.mp hy with e | e
    · rw [e]; exact h1
    · exact leS_trans h1 ((List.pairwise_cons.mp ih).1 y e)
theorem sortedS_pw : ∀ {l : List Str}, PyProof.Rows.sortedS l = true → SrtS l
  | [], _ => List.Pairwise.nil
  | _ :: _, h => rising_pw h
def insS (x : Str) : List Str → List Str
  | [] => [x]
  | y :: r => if ltS y x = true then y :: insS x r else x :: y :: r
def srtS : List Str → List Str
  | [] => []
  | x :: r => insS x (srtS r)
theorem insS_perm (x : Str) : ∀ l, (insS x l).Perm (x :: l)
  | [] => .refl _
  | y :: r => by
    unfold insS
    split
    · exact ((insS_perm x r).cons y).trans (.swap x y r)
    · exact .refl _
theorem srtS_perm : ∀ l, (srtS l).Perm l
  | [] => .refl _
  | x :: r => (insS_perm x _).trans ((srtS_perm r).cons x)
theorem insS_srt (x : Str) : ∀ {l}, SrtS l → SrtS (insS x l)
  | [], _ => List.pairwise_singleton _ _
  | y :: r, h => by
    unfold insS
    split
    next c =>
      refine List.pairwise_cons.mpr ⟨fun z hz => ?_, insS_srt x (List.pairwise_cons.mp h).2⟩
      rcases List.mem_cons.mp ((insS_perm x r).mem_iff.mp hz) with e | e
      · rw [e]; exact ltS_asym c
      · exact (List.pairwise_cons.mp h).1 z e
    next c =>
      have c : ltS y x = false := by simpa using c
      refine List.pairwise_cons.mpr ⟨fun z hz => ?_, h⟩
      rcases List.mem_cons.mp hz with e | e
      · rw [e]; exact c
      · exact leS_trans c ((List.pairwise_cons.mp h).1 z e)
theorem srtS_srt : ∀ l, SrtS (srtS l)
  | [] => List.Pairwise.nil
  | x :: r => insS_srt x (srtS_srt r)
theorem srt_uniq : ∀ {a b : List Str}, a.Perm b → SrtS a → SrtS b → a = b
  | [], b, p, _, _ => (p.symm.eq_nil).symm
  | x :: a, b, p, h, k => by
    cases b with
    | nil => exact absurd p.eq_nil (by simp)
    | cons y b =>
      have e : x = y := by
        have hx : x ∈ y :: b := p.mem_iff.mp List.mem_cons_self
        have hy : y ∈ x :: a := p.mem_iff.mpr List.mem_cons_self
        rcases List.mem_cons.mp hx with e | e
        · exact e
        · rcases List.mem_cons.mp hy with e' | e'
          · exact e'.symm
          · exact ltS_tri ((List.pairwise_cons.mp k).1 x e) ((List.pairwise_cons.mp h).1 y e') |>.symm ▸ rfl
      subst e
      rw [srt_uniq (p.cons_inv) (List.pairwise_cons.mp h).2 (List.pairwise_cons.mp k).2]
theorem sorted_is {ys ss : List Str} (p : ys.Perm ss) (h : PyProof.Rows.sortedS ys = true) : ys = srtS ss :=
  srt_uniq (p.trans (srtS_perm ss).symm) (sortedS_pw h) (srtS_srt ss)
theorem srtS_mem {x : Str} {l : List Str} : x ∈ srtS l ↔ x ∈ l := (srtS_perm l).mem_iff
theorem srtS_len (l : List Str) : (srtS l).length = l.length := (srtS_perm l).length_eq
theorem srtS_nodup {l : List Str} (h : l.Nodup) : (srtS l).Nodup := (srtS_perm l).nodup_iff.mpr h
/-- sorted(list of texts) -/
theorem sort_go {ss : List Str} {Q : DV → Prop} (hl : ss.length < 64) (h : Q (.lst ((srtS ss).map DV.str))) : fSort [.lst (ss.map DV.str)] Q := by
  rw [fSort_is]; exact ⟨_, rfl, .inl ⟨ss, rfl, hl, fun ys p s => by rw [sorted_is p s]; exact h⟩⟩

def encS (s : List Str) : DV := .tup (s.map DV.str)
theorem toPs_strs : ∀ s : List Str, toPs (s.map DV.str) = some (s.map PyData.str)
  | [] => rfl
  | x :: s => by simp [toPs, toP, toPs_strs s]
/-- texts of true signs -/
abbrev OkS (s : List Str) : Prop := ∀ x ∈ s, PyData.strOk x = true
theorem lay_strs : ∀ {s : List Str}, OkS s → PyData.canLayAll0 (s.map PyData.str) = true
  | [], _ => rfl
  | x :: s, h => by simp [PyData.canLayAll0, PyData.canLay0, h x List.mem_cons_self, lay_strs fun y hy => h y (List.mem_cons_of_mem _ hy)]
theorem dep_strs : ∀ s : List Str, PyData.depthAll (s.map PyData.str) = 0
  | [] => rfl
  | x :: s => by simp [PyData.depthAll, PyData.depth, dep_strs s]
theorem shaped_strs {s : List Str} (h : OkS s) : SeqAt.shaped (.tuple (s.map PyData.str)) = true := by simp [SeqAt.shaped, PyData.canLay0, PyData.depth, lay_strs h, dep_strs]
theorem eqvAll_strs : ∀ a b : List Str, PyData.eqvAll (a.map PyData.str) (b.map PyData.str) = decide (a = b)
  | [], [] => rfl
  | [], _ :: _ => rfl
  | _ :: _, [] => rfl
  | x :: a, y :: b => by
    simp only [List.map_cons, PyData.eqvAll, eqvAll_strs a b, PyData.eqv]
    by_cases h : x = y
    · subst h; by_cases k : a = b <;> simp [k]
    · simp [h]
theorem eqv_strs (a b : List Str) : PyData.eqv (.tuple (a.map PyData.str)) (.tuple (b.map PyData.str)) = decide (a = b) := by
  simp only [PyData.eqv, eqvAll_strs]
theorem toP_encS (s : List Str) : toP (encS s) = some (.tuple (s.map PyData.str)) := by simp [encS, toP, toPs_strs]
theorem eqS_go {a b : List Str} {Q : Bool → Prop} (ha : OkS a) (hb : OkS b) (h : Q (decide (a = b))) : fEqB (encS a) (encS b) Q := by
  unfold fEqB
  exact ⟨.tuple (a.map PyData.str), .tuple (b.map PyData.str), toP_encS a, toP_encS b, shaped_strs ha, shaped_strs hb, by rw [eqv_strs]; exact h⟩
theorem eqS_nil {a : List Str} {Q : Bool → Prop} (ha : OkS a) (h : Q a.isEmpty) : fEqB (encS a) (.tup []) Q :=
  eqS_go (b := []) ha (fun _ z => nomatch z) (by cases a <;> exact h)
theorem plain_encS (s : List Str) (h : s.length ≤ sizeLine) : ∀ d : Nat, plainD (d + 1) (encS s) := fun d => ⟨by simpa using h, fun x hx => by obtain ⟨z, _, rfl⟩ := List.mem_map.mp hx; cases d <;> exact trivial⟩

abbrev Rules := List (Str × List Str)
def namesR (r : Rules) : List Str := r.map (·.1)
def keysR (r : Rules) : List Key := r.map fun p => Sum.inr p.1
def encR (r : Rules) : DV := .dic (keysR r) (r.map fun p => encS p.2)
def getR : Rules → Str → List Str
  | [], _ => []
  | p :: r, x => if p.1 = x then p.2 else getR r x
theorem keysR_names (r : Rules) : keysR r = (namesR r).map Sum.inr := by unfold keysR namesR; rw [List.map_map]; rfl
theorem keysR_keyV (r : Rules) : (keysR r).map keyV = (namesR r).map DV.str := by unfold keysR namesR; rw [List.map_map, List.map_map]; rfl
theorem look_encR {x : Str} : ∀ {r : Rules}, x ∈ namesR r → lookD (keysR r) (r.map fun p => encS p.2) (.inr x) = some (encS (getR r x))
  | [], h => by cases h
  | p :: r, h => by
    by_cases c : p.1 = x
    · subst c; simp [lookD, keysR, getR]
    · have h' : x ∈ namesR r := by
        rcases List.mem_cons.mp (show x ∈ p.1 :: namesR r from h) with e | e
        · exact absurd e.symm c
        · exact e
      have ih := look_encR h'
      have n : ¬ (Sum.inr p.1 : Key) = .inr x := fun e => c (Sum.inr.inj e)
      simp only [lookD, keysR, List.map_cons, List.zip_cons_cons, List.find?_cons, n, decide_false] at ih ⊢
      rw [ih]
      simp [getR, c]
theorem any_keys {x : Str} (r : Rules) : ((keysR r).any fun q => decide (q = .inr x)) = decide (x ∈ namesR r) := by
  rw [keysR_names, List.any_map]
  by_cases h : x ∈ namesR r
  · rw [decide_eq_true h, List.any_eq_true]
    exact ⟨x, h, by simp⟩
  · rw [decide_eq_false h, List.any_eq_false]
    intro y hy
    simp only [Function.comp, decide_eq_true_eq]
    intro e; cases e; exact h hy
theorem inR_go {x : Str} {r : Rules} {Q : Bool → Prop} (h : Q (decide (x ∈ namesR r))) : fInB (.str x) (encR r) Q := by rw [fInB_is]; exact ⟨.inr x, rfl, by rw [any_keys]; exact h⟩
theorem ixR_go {x : Str} {r : Rules} {Q : DV → Prop} (hm : x ∈ namesR r) (h : Q (encS (getR r x))) : fIx (encR r) (.str x) Q := ⟨.inr x, _, rfl, look_encR hm, h⟩
theorem getR_mem {x : Str} : ∀ {r : Rules}, x ∈ namesR r → (x, getR r x) ∈ r
  | [], h => by cases h
  | p :: r, h => by
    by_cases c : p.1 = x
    · subst c; simp [getR]
    · have h' : x ∈ namesR r := by
        rcases List.mem_cons.mp (show x ∈ p.1 :: namesR r from h) with e | e
        · exact absurd e.symm c
        · exact e
      simp [getR, c, getR_mem h']
theorem getR_of : ∀ {r : Rules} {p : Str × List Str}, (namesR r).Nodup → p ∈ r → getR r p.1 = p.2
  | [], _, _, h => by cases h
  | q :: r, p, nd, h => by
    have nd' : q.1 ∉ namesR r ∧ (namesR r).Nodup := List.nodup_cons.mp nd
    rcases List.mem_cons.mp h with e | e
    · subst e; simp [getR]
    · have : q.1 ≠ p.1 := fun z => nd'.1 (by rw [z]; exact List.mem_map.mpr ⟨p, e, rfl⟩)
      simp [getR, this, getR_of nd'.2 e]
/-- the rules with their names in order -/
def srtR (r : Rules) : Rules := (srtS (namesR r)).map fun x => (x, getR r x)
theorem names_srtR (r : Rules) : namesR (srtR r) = srtS (namesR r) := by unfold srtR; rw [namesR, List.map_map]; exact List.map_id _
theorem getR_map {x : Str} {f : Str → List Str} : ∀ {l : List Str}, x ∈ l → getR (l.map fun y => (y, f y)) x = f x
  | [], h => by cases h
  | y :: l, h => by
    by_cases c : y = x
    · subst c; simp [getR]
    · rcases List.mem_cons.mp h with e | e
      · exact absurd e.symm c
      · simp [getR, c, getR_map e]
theorem getR_srtR {r : Rules} {x : Str} (h : x ∈ namesR r) : getR (srtR r) x = getR r x := getR_map (srtS_mem.mpr h)
theorem mem_srtR {r : Rules} {x : Str} : x ∈ namesR (srtR r) ↔ x ∈ namesR r := by rw [names_srtR]; exact srtS_mem
/-- sorted(rules) -/
theorem sortR_go {r : Rules} {Q : DV → Prop} (hl : r.length < 64) (h : Q (.lst ((srtS (namesR r)).map DV.str))) : fSort [encR r] Q := by
  rw [fSort_is]; exact ⟨namesR r, keysR_names r, by simpa [namesR] using hl, fun ys p s => by rw [sorted_is p s]; exact h⟩
/-- d[k] = v: over rules -/
def setR : Rules → Str → List Str → Rules
  | [], x, v => [(x, v)]
  | p :: r, x, v => if p.1 = x then (x, v) :: r else p :: setR r x v
theorem putD_new {r : Rules} {x : Str} {v : List Str} (h : x ∉ namesR r) : putD (keysR r) (r.map fun p => encS p.2) (.inr x) (encS v) = (keysR (r ++ [(x, v)]), (r ++ [(x, v)]).map fun p => encS p.2) := by
  unfold putD
  rw [any_keys, decide_eq_false h]
  simp [keysR]
theorem putD_old : ∀ {r : Rules} {x : Str} {v : List Str}, (namesR r).Nodup → x ∈ namesR r → (((keysR r).zip (r.map fun p => encS p.2)).map fun p => if p.1 = (.inr x : Key) then encS v else p.2) = (setR r x v).map (fun p => encS p.2) ∧ keysR (setR r x v) = keysR r
  | [], _, _, _, h => by cases h
  | p :: r, x, v, nd, h => by
    have nd' : p.1 ∉ namesR r ∧ (namesR r).Nodup := List.nodup_cons.mp nd
    by_cases c : p.1 = x
    · subst c
      have key : ∀ {l : Rules}, p.1 ∉ namesR l → (((keysR l).zip (l.map fun p => encS p.2)).map fun q => if q.1 = (.inr p.1 : Key) then encS v else q.2) = l.map fun p => encS p.2 := by
        intro l
        induction l with
        | nil => intro _; rfl
        | cons a l ih =>
          intro hn
          have hn' : p.1 ≠ a.1 ∧ p.1 ∉ namesR l := by simpa [namesR] using hn
          have e : ¬ (Sum.inr a.1 : Key) = .inr p.1 := fun e => hn'.1 (Sum.inr.inj e).symm
          have ih' := ih hn'.2
          simp only [keysR, List.map_cons, List.zip_cons_cons, e, if_false] at ih' ⊢
          rw [ih']
      have k := key nd'.1
      simp only [keysR, List.map_cons, List.zip_cons_cons, if_true, setR] at k ⊢
      exact ⟨by rw [k], trivial⟩
    · have h' : x ∈ namesR r := by
        rcases List.mem_cons.mp (show x ∈ p.1 :: namesR r from h) with e | e
        · exact absurd e.symm c
        · exact e
      obtain ⟨i1, i2⟩ := putD_old (v := v) nd'.2 h'
      have e : ¬ (Sum.inr p.1 : Key) = .inr x := fun e => c (Sum.inr.inj e)
      simp only [keysR, List.map_cons, List.zip_cons_cons, e, if_false, setR, c] at i1 i2 ⊢
      exact ⟨by rw [i1], by rw [i2]⟩
theorem names_setR : ∀ {r : Rules} {x : Str} {v : List Str}, x ∈ namesR r → namesR (setR r x v) = namesR r
  | [], _, _, h => by cases h
  | p :: r, x, v, h => by
    by_cases c : p.1 = x
    · subst c; simp [setR, namesR]
    · have h' : x ∈ namesR r := by
        rcases List.mem_cons.mp (show x ∈ p.1 :: namesR r from h) with e | e
        · exact absurd e.symm c
        · exact e
      have ih := names_setR (v := v) h'
      simp only [setR, c, if_false, namesR, List.map_cons] at ih ⊢
      rw [ih]
theorem putD_R {r : Rules} {x : Str} {v : List Str} (nd : (namesR r).Nodup) : ∃ r' : Rules, putD (keysR r) (r.map fun p => encS p.2) (.inr x) (encS v) = (keysR r', r'.map fun p => encS p.2) ∧ r' = if x ∈ namesR r then setR r x v else r ++ [(x, v)] := by
  by_cases h : x ∈ namesR r
  · refine ⟨_, ?_, rfl⟩
    rw [if_pos h]
    obtain ⟨i1, i2⟩ := putD_old (v := v) nd h
    unfold putD
    rw [any_keys, decide_eq_true h, if_pos rfl, i1, i2]
  · refine ⟨_, ?_, rfl⟩
    rw [if_neg h]
    exact putD_new h
end DL

namespace DL
open PySem L2

theorem line6 {n : Nat} (h : n ≤ 1000000) : n ≤ sizeLine := by rw [sizeLine_eq]; omega
theorem len_encS (s : List Str) : (s.map DV.str).length = s.length := List.length_map ..
theorem nameB_ok {z : Str} (h : nameB z = true) : PyData.strOk z = true := by
  unfold nameB at h
  simp only [Bool.and_eq_true, List.all_eq_true] at h
  unfold PyData.strOk
  rw [Array.all_eq_true']
  intro c hc
  have h1 := h.2.2 c (by simpa using hc)
  rw [strIn_one] at h1
  have h2 : c ∈ letters.cps.toList := by simpa using h1
  have key : ∀ c ∈ letters.cps.toList, c < 0x110000 := by decide +kernel
  exact decide_eq_true (key c h2)
theorem nameB_len {z : Str} (h : nameB z = true) : 1 ≤ z.length ∧ z.length ≤ 6 := by
  unfold nameB at h
  simp only [Bool.and_eq_true, decide_eq_true_eq] at h
  omega
def ruleB (ps ns : List Str) : Bool := decide (ps.length = 0) || (decide (2 ≤ ps.length) && (decide (ps.length ≤ 4) && ps.all fun x => decide (x ∈ ns)))
def spIsRule : DSp := fun ds Q _ => ∃ (ps : List Str) (r : Rules), ds = [encS ps, encR r] ∧ ps.length ≤ 1000000 ∧ Q (.bl (ruleB ps (namesR r)))
inductive GErr where
  | ok | limit | name (z : Str) | rule (z : Str)
def gErr (r : Rules) : GErr :=
  if 8 < r.length then .limit
  else match (srtS (namesR r)).find? fun z => !nameB z with
    | some z => .name z
    | none => match (srtS (namesR r)).find? fun z => !ruleB (getR r z) (namesR r) with
      | some z => .rule z
      | none => .ok
def grD (C : Addr) (r : Rules) : DV := .obj C ["table"] [encR r]
/-- rules whose parts are of a size -/
def SizeR (r : Rules) : Prop := r.length < 64 ∧ (namesR r).Nodup ∧ ∀ p ∈ r, p.1.length ≤ 1000 ∧ p.2.length ≤ 1000
def spGrammar (C CL CN CR : Addr) : DSp := fun ds Q E => ∃ r : Rules, ds = [encR r] ∧ SizeR r ∧ match gErr r with
  | .ok => Q (grD C (srtR r))
  | .limit => E CL ["word", "limit"] [.str "limitexceeded", .int 8]
  | .name z => E CN ["word", "name"] [.str "invalidname", .str z]
  | .rule z => E CR ["word", "symbol"] [.str "invalidrule", .str z]
def spRules (C : Addr) : DSp := fun ds Q _ => ∃ r : Rules, ds = [grD C r] ∧ Q (encR r)
/-- the first place of an unknown symbol -/
def badAt (ns : List Str) : List Str → Nat → Option Nat
  | [], _ => none
  | x :: s, i => if x ∈ ns then badAt ns s (i + 1) else some i
def seqBad (ns s : List Str) : Option Int := if s.isEmpty then some (-1) else (badAt ns s 0).map Int.ofNat
def spCheckSeq (C CI : Addr) : DSp := fun ds Q E => ∃ (r : Rules) (s : List Str), ds = [grD C r, encS s] ∧ s.length ≤ 1000000 ∧ match seqBad (namesR r) s with
  | none => Q .non
  | some i => E CI ["word", "position"] [.str "invalidsequence", .int i]
theorem badAt_none {ns : List Str} : ∀ {s : List Str} {i : Nat}, (∀ x ∈ s, x ∈ ns) → badAt ns s i = none
  | [], _, _ => rfl
  | x :: s, i, h => by unfold badAt; rw [if_pos (h x List.mem_cons_self)]; exact badAt_none fun y hy => h y (List.mem_cons_of_mem _ hy)
theorem seqBad_none {ns s : List Str} (h0 : s ≠ []) (h : ∀ x ∈ s, x ∈ ns) : seqBad ns s = none := by
  unfold seqBad
  rw [if_neg (by simpa using h0), badAt_none h]; rfl
/-- a step: expand p | contract p x -/
inductive Sp1 where
  | ex (p : Nat) | co (p : Nat) (x : Str)
  deriving DecidableEq
def encP : Sp1 → DV
  | .ex p => .tup [.str "expand", .int p]
  | .co p x => .tup [.str "contract", .int p, .str x]
def expS (r : Rules) (s : List Str) (p : Nat) : List Str := s.take p ++ getR r (s.getD p "") ++ s.drop (p + 1)
def conS (r : Rules) (s : List Str) (p : Nat) (x : Str) : List Str := s.take p ++ [x] ++ s.drop (p + (getR r x).length)
def matchAt (r : Rules) (s : List Str) (p : Nat) (x : Str) : Bool := !(getR r x).isEmpty && decide ((s.drop p).take (getR r x).length = getR r x)
/-- rules that a grammar may have -/
structure GrOk (r : Rules) : Prop where
  nd : (namesR r).Nodup
  len : r.length ≤ 8
  nm : ∀ x ∈ namesR r, nameB x = true
  parts : ∀ p ∈ r, p.2.length ≤ 4 ∧ p.2.length ≠ 1 ∧ ∀ x ∈ p.2, x ∈ namesR r
def SeqOk (r : Rules) (s : List Str) : Prop := s ≠ [] ∧ (∀ x ∈ s, x ∈ namesR r) ∧ s.length ≤ 900000
theorem GrOk.strs {r : Rules} (g : GrOk r) {s : List Str} (h : ∀ x ∈ s, x ∈ namesR r) : OkS s := fun x hx => nameB_ok (g.nm x (h x hx))
theorem GrOk.get {r : Rules} (g : GrOk r) {x : Str} (h : x ∈ namesR r) : (getR r x).length ≤ 4 ∧ (getR r x).length ≠ 1 ∧ ∀ y ∈ getR r x, y ∈ namesR r := g.parts _ (getR_mem h)
theorem GrOk.size {r : Rules} (g : GrOk r) : SizeR r := ⟨by have := g.len; omega, g.nd, fun p hp => ⟨by have := nameB_len (g.nm p.1 (List.mem_map.mpr ⟨p, hp, rfl⟩)); omega, by have := (g.parts p hp).1; omega⟩⟩
theorem GrOk.err {r : Rules} (g : GrOk r) : gErr r = .ok := by
  unfold gErr
  rw [if_neg (by have := g.len; omega)]
  have h1 : (srtS (namesR r)).find? (fun z => !nameB z) = none := by
    rw [List.find?_eq_none]
    intro x hx
    simp [g.nm x (srtS_mem.mp hx)]
  rw [h1]
  have h2 : (srtS (namesR r)).find? (fun z => !ruleB (getR r z) (namesR r)) = none := by
    rw [List.find?_eq_none]
    intro x hx
    obtain ⟨a, b, c⟩ := g.get (srtS_mem.mp hx)
    have : ruleB (getR r x) (namesR r) = true := by
      unfold ruleB
      simp only [Bool.or_eq_true, Bool.and_eq_true, decide_eq_true_eq, List.all_eq_true]
      by_cases z : (getR r x).length = 0
      · exact .inl z
      · exact .inr ⟨by omega, by omega, c⟩
    simp [this]
  rw [h2]
theorem GrOk.srt {r : Rules} (g : GrOk r) : GrOk (srtR r) := by
  refine ⟨by rw [names_srtR]; exact srtS_nodup g.nd, by simp [srtR, srtS_len, namesR]; exact g.len, fun x hx => g.nm x (mem_srtR.mp hx), fun p hp => ?_⟩
  obtain ⟨x, hx, rfl⟩ := List.mem_map.mp hp
  obtain ⟨a, b, c⟩ := g.get (srtS_mem.mp hx)
  exact ⟨a, b, fun y hy => mem_srtR.mpr (c y hy)⟩
def stepB : List DV → Bool
  | [.str z, _] => decide (z = ("expand" : Str))
  | [.str z, _, _] => decide (z = ("contract" : Str))
  | _ => false
def spCheckStep (CS : Addr) : DSp := fun ds Q E => ∃ (xs : List DV), ds = [.tup xs] ∧ (xs = [] ∨ ∃ z ys, xs = .str z :: ys) ∧
  if stepB xs = true then Q .non else E CS ["word"] [.str "invalidstep"]
/-- a step that can be done -/
def okP (r : Rules) (s : List Str) : Sp1 → Prop
  | .ex p => p < s.length ∧ getR r (s.getD p "") ≠ []
  | .co p x => p < s.length ∧ x ∈ namesR r ∧ matchAt r s p x = true
def aftP (r : Rules) (s : List Str) : Sp1 → List Str
  | .ex p => expS r s p
  | .co p x => conS r s p x
def spSeqAfter (C : Addr) : DSp := fun ds Q _ => ∃ (r : Rules) (s : List Str) (t : Sp1), ds = [grD C r, encS s, encP t] ∧ GrOk r ∧ SeqOk r s ∧ okP r s t ∧ Q (encS (aftP r s t))
/-- a law's rules -/
def LawR (r : Rules) : Prop := GrOk r ∧ r ≠ []
def spLawNames : DSp := fun ds Q _ => ∃ (b : Addr) (n : Nat), ds = [.bag b, .int n] ∧ 1 ≤ n ∧ n ≤ 8 ∧ ∀ ns : List Str, ns.length = n → ns.Nodup → (∀ x ∈ ns, nameB x = true) → Q (.lst (ns.map DV.str))
def spLawRules : DSp := fun ds Q _ => ∃ b : Addr, ds = [.bag b] ∧ ∀ r : Rules, LawR r → Q (encR r)
def spLawSeq : DSp := fun ds Q _ => ∃ (b : Addr) (r : Rules) (n : Nat), ds = [.bag b, encR r, .int n] ∧ LawR r ∧ 1 ≤ n ∧ n ≤ 1000 ∧ ∀ s : List Str, 1 ≤ s.length → s.length ≤ n → (∀ x ∈ s, x ∈ namesR r) → Q (encS s)
def spLawAfter : DSp := fun ds Q _ => ∃ (r : Rules) (s : List Str) (t : Sp1), ds = [encR r, encS s, encP t] ∧ GrOk r ∧ SeqOk r s ∧ okP r s t ∧ Q (encS (aftP r s t))
/-- all steps of a sequence, as the law finds them: ns the names of symbols with an expansion -/
def possP (r : Rules) (s : List Str) : List Sp1 :=
  ((List.range s.length).filter fun p => !(getR r (s.getD p "")).isEmpty).map Sp1.ex ++
  (List.range s.length).flatMap fun p => (((srtS ((namesR r).filter fun x => !(getR r x).isEmpty)).filter fun x => decide ((s.drop p).take (getR r x).length = getR r x)).map fun x => Sp1.co p x)
def spLawPoss : DSp := fun ds Q _ => ∃ (r : Rules) (s : List Str), ds = [encR r, encS s] ∧ GrOk r ∧ SeqOk r s ∧ s.length ≤ 100000 ∧ Q (.lst ((possP r s).map encP))
/-- steps one after another -/
def runP (r : Rules) : List Str → List Sp1 → List Str
  | s, [] => s
  | s, t :: ts => runP r (aftP r s t) ts
def okRun (r : Rules) : List Str → List Sp1 → Prop
  | _, [] => True
  | s, t :: ts => okP r s t ∧ okRun r (aftP r s t) ts
def spLawSteps : DSp := fun ds Q _ => ∃ (b : Addr) (r : Rules) (s : List Str) (n : Nat), ds = [.bag b, encR r, encS s, .int n] ∧ LawR r ∧ SeqOk r s ∧ s.length ≤ 1000 ∧ n ≤ 1000 ∧ ∀ ts : List Sp1, ts.length ≤ n → okRun r s ts → (∀ k, (runP r s (ts.take k)).length ≤ s.length + 30) → Q (.lst (ts.map encP))
def spLawEnd : DSp := fun ds Q _ => ∃ (r : Rules) (s : List Str) (ts : List Sp1), ds = [encR r, encS s, .lst (ts.map encP)] ∧ GrOk r ∧ SeqOk r s ∧ s.length + 3 * ts.length ≤ 900000 ∧ okRun r s ts ∧ Q (encS (runP r s ts))
/-- a member of possP can be done -/
theorem possP_ok {r : Rules} {s : List Str} {t : Sp1} (h : t ∈ possP r s) : okP r s t := by
  rcases List.mem_append.mp h with h | h
  · obtain ⟨p, hp, rfl⟩ := List.mem_map.mp h
    obtain ⟨h1, h2⟩ := List.mem_filter.mp hp
    exact ⟨List.mem_range.mp h1, by simpa using h2⟩
  · obtain ⟨p, hp, h⟩ := List.mem_flatMap.mp h
    obtain ⟨x, hx, rfl⟩ := List.mem_map.mp h
    obtain ⟨h1, h2⟩ := List.mem_filter.mp hx
    obtain ⟨h3, h4⟩ := List.mem_filter.mp (srtS_mem.mp h1)
    exact ⟨List.mem_range.mp hp, h3, by unfold matchAt; rw [h4, h2]; rfl⟩
theorem getD_mem {s : List Str} {p : Nat} (h : p < s.length) : s.getD p "" ∈ s := by
  rw [List.getD_eq_getElem?_getD, List.getElem?_eq_getElem h]; exact List.getElem_mem h
/-- what a step leaves -/
theorem aft_len {r : Rules} {s : List Str} {t : Sp1} (g : GrOk r) (hs : ∀ x ∈ s, x ∈ namesR r) (h : okP r s t) : (aftP r s t).length ≤ s.length + 3 ∧ aftP r s t ≠ [] ∧ ∀ x ∈ aftP r s t, x ∈ namesR r := by
  cases t with
  | ex p =>
    obtain ⟨h1, h2⟩ := h
    have hm := hs _ (getD_mem h1)
    obtain ⟨a, b, c⟩ := g.get hm
    refine ⟨?_, ?_, ?_⟩
    · show (expS r s p).length ≤ _
      unfold expS
      simp only [List.length_append, List.length_take, List.length_drop]
      omega
    · show expS r s p ≠ []
      unfold expS
      intro e
      simp only [List.append_eq_nil_iff] at e
      exact h2 e.1.2
    · intro x hx
      rcases List.mem_append.mp (show x ∈ s.take p ++ getR r (s.getD p "") ++ s.drop (p + 1) from hx) with hx | hx
      · rcases List.mem_append.mp hx with hx | hx
        · exact hs x (List.mem_of_mem_take hx)
        · exact c x hx
      · exact hs x (List.mem_of_mem_drop hx)
  | co p x =>
    obtain ⟨h1, h2, h3⟩ := h
    refine ⟨?_, ?_, ?_⟩
    · show (conS r s p x).length ≤ _
      unfold conS
      simp only [List.length_append, List.length_take, List.length_drop, List.length_singleton]
      omega
    · show conS r s p x ≠ []
      unfold conS
      intro e
      simp at e
    · intro y hy
      rcases List.mem_append.mp (show y ∈ s.take p ++ [x] ++ s.drop (p + (getR r x).length) from hy) with hy | hy
      · rcases List.mem_append.mp hy with hy | hy
        · exact hs y (List.mem_of_mem_take hy)
        · rw [List.mem_singleton.mp hy]; exact h2
      · exact hs y (List.mem_of_mem_drop hy)
theorem iteP {p : Prop} [Decidable p] {A B : Prop} (h : p → A) (k : ¬ p → B) : if decide p = true then A else B := by
  by_cases c : p
  · rw [if_pos (decide_eq_true c)]; exact h c
  · rw [if_neg (by simpa using c)]; exact k c
theorem iteY {p : Prop} [Decidable p] {A B : Prop} (c : p) (h : A) : if decide p = true then A else B := iteP (fun _ => h) fun n => absurd c n
theorem iteN {p : Prop} [Decidable p] {A B : Prop} (c : ¬ p) (h : B) : if decide p = true then A else B := iteP (fun n => absurd n c) fun _ => h
/-- a test's opposite -/
theorem iteQ {p : Prop} [Decidable p] {A B : Prop} (h : ¬ p → A) (k : p → B) : if (!decide p) = true then A else B := by
  by_cases c : p
  · rw [if_neg (by simp [c])]; exact k c
  · rw [if_pos (by simp [c])]; exact h c
theorem qb {Q : DV → Prop} {a b : Bool} (h : Q (.bl a)) (e : a = b) : Q (.bl b) := e ▸ h
theorem vint_eq (a b : Int) : decide (V.int a = V.int b) = decide (a = b) := by simp
theorem vstr_eq (a b : Str) : decide (V.str a = V.str b) = decide (a = b) := by simp
theorem eqI_go {a b : Int} {Q : Bool → Prop} (h : Q (decide (a = b))) : fEqB (.int a) (.int b) Q := by unfold fEqB; exact ⟨rfl, by rw [vint_eq]; exact h⟩
theorem eqT_go {a b : Str} {Q : Bool → Prop} (h : Q (decide (a = b))) : fEqB (.str a) (.str b) Q := by unfold fEqB; exact ⟨rfl, by rw [vstr_eq]; exact h⟩
theorem eqB_go {a b : Bool} {Q : Bool → Prop} (h : Q (decide (a = b))) : fEqB (.bl a) (.bl b) Q := by unfold fEqB; exact ⟨rfl, by simpa using h⟩
/-- a sign in a text -/
theorem inT_go {i z : Str} {Q : Bool → Prop} (h : Q (strIn i z)) : fInB (.str i) (.str z) Q := by rw [fInB_is]; exact ⟨i, rfl, h⟩
/-- all over a list of bools that a comprehension made -/
theorem all_map {α : Type} {f : α → Bool} {l : List α} {Q : DV → Prop} (h : Q (.bl (l.all f))) : fAll [.lst (l.map fun x => DV.bl (f x))] Q := ⟨l.map f, boolsD_map f l, by rw [List.all_map]; exact h⟩
/-- a comprehension over typed items, all kept, the slots left -/
theorem lc_map {α β : Type} {e : α → DV} {c : β → DV} (f : α → β) {g : AG} {te : AE} {vs : List Nat} {fin : List DV → DSt → Prop} {ρ : DSt} {l : List α} (hr : wipeD ρ vs = ρ)
    (hs : ∀ x ∈ l, ∀ Q : DV → DSt → Prop, (∀ ρ', wipeD ρ' vs = ρ → Q (c (f x)) ρ') → g (e x) ρ fun ρ2 => te ρ2 Q) (hf : fin (l.map fun x => c (f x)) ρ) : dLcW g (fun ρ Q => Q true ρ) te vs fin (l.map e) [] ρ := by
  have key : ∀ (es : List α) (acc : List DV), (∀ d ∈ es, d ∈ l) → fin (acc ++ es.map fun x => c (f x)) ρ → dLcW g (fun ρ Q => Q true ρ) te vs fin (es.map e) acc ρ := by
    intro es
    induction es with
    | nil => intro acc _ h; rw [List.map_nil, dLcW_nil]; simpa using h
    | cons d r ih =>
      intro acc hm h
      rw [List.map_cons, dLcW_cons]
      refine hs d (hm d (by simp)) (fun y ρ4 => dLcW g (fun ρ Q => Q true ρ) te vs fin (r.map e) (acc ++ [y]) (wipeD ρ4 vs)) fun ρ' e' => ?_
      rw [e']
      exact ih _ (fun x hx => hm x (by simp [hx])) (by simpa using h)
  exact key l [] (fun _ h => h) (by simpa using hf)
/-- a comprehension with a test -/
theorem lc_filter {α β : Type} {e : α → DV} {c : β → DV} (p : α → Bool) (f : α → β) {g : AG} {tt : AT} {te : AE} {vs : List Nat} {fin : List DV → DSt → Prop} {ρ : DSt} {l : List α} (hr : wipeD ρ vs = ρ)
    (hs : ∀ x ∈ l, ∀ (Q : DV → DSt → Prop) (N : DSt → Prop), (p x = true → ∀ ρ', wipeD ρ' vs = ρ → Q (c (f x)) ρ') → (p x = false → ∀ ρ', wipeD ρ' vs = ρ → N ρ') → g (e x) ρ fun ρ2 => tt ρ2 fun b ρ3 => if b = true then te ρ3 Q else N ρ3)
    (hf : fin ((l.filter p).map fun x => c (f x)) ρ) : dLcW g tt te vs fin (l.map e) [] ρ := by
  have key : ∀ (es : List α) (acc : List DV), (∀ d ∈ es, d ∈ l) → fin (acc ++ (es.filter p).map fun x => c (f x)) ρ → dLcW g tt te vs fin (es.map e) acc ρ := by
    intro es
    induction es with
    | nil => intro acc _ h; rw [List.map_nil, dLcW_nil]; simpa using h
    | cons d r ih =>
      intro acc hm h
      rw [List.map_cons, dLcW_cons]
      refine hs d (hm d (by simp)) (fun y ρ4 => dLcW g tt te vs fin (r.map e) (acc ++ [y]) (wipeD ρ4 vs)) (fun ρ3 => dLcW g tt te vs fin (r.map e) acc (wipeD ρ3 vs)) (fun hp ρ' e' => ?_) (fun hp ρ' e' => ?_)
      · rw [e']
        refine ih _ (fun x hx => hm x (by simp [hx])) ?_
        rw [List.filter_cons_of_pos hp] at h
        simpa using h
      · rw [e']
        refine ih _ (fun x hx => hm x (by simp [hx])) ?_
        rw [List.filter_cons_of_neg (by simp [hp])] at h
        exact h
  exact key l [] (fun _ h => h) (by simpa using hf)
/-- a walk over typed items by a word of what is left and the state -/
theorem walk_on {α : Type} {e : α → DV} {g : AG} {t : ASt} {K : DEnds} (I : List α → DSt → Prop) {ρ : DSt} {l : List α} (h0 : I l ρ) (hn : ∀ ρ, I [] ρ → K.nx ρ)
    (hc : ∀ (x : α) (r : List α) (ρ : DSt) (K' : DEnds), (∀ ρ', I r ρ' → K'.nx ρ') → (∀ ρ', I r ρ' → K'.ct ρ') → (∀ ρ', K.nx ρ' → K'.bk ρ') → (∀ x ρ', K.rt x ρ' → K'.rt x ρ') → I (x :: r) ρ → g (e x) ρ fun ρ1 => t K' ρ1) : dWalk g t K (l.map e) ρ := by
  induction l generalizing ρ with
  | nil => rw [List.map_nil, dWalk_nil]; exact hn ρ h0
  | cons x r ih =>
    rw [List.map_cons, dWalk_cons]
    exact hc x r ρ { nx := fun ρ2 => dWalk g t K (r.map e) ρ2, rt := K.rt, bk := K.nx, ct := fun ρ2 => dWalk g t K (r.map e) ρ2 } (fun ρ' h => ih h) (fun ρ' h => ih h) (fun _ q => q) (fun _ _ q => q) h0
/-- a walk over range(n), by the turn's number -/
theorem walk_range {g : AG} {t : ASt} {K : DEnds} (I : Nat → DSt → Prop) {ρ : DSt} {n : Nat} (h0 : I 0 ρ) (hn : ∀ ρ, I n ρ → K.nx ρ)
    (hc : ∀ (k : Nat) (ρ : DSt) (K' : DEnds), k < n → (∀ ρ', I (k + 1) ρ' → K'.nx ρ') → (∀ ρ', I (k + 1) ρ' → K'.ct ρ') → (∀ ρ', K.nx ρ' → K'.bk ρ') → (∀ x ρ', K.rt x ρ' → K'.rt x ρ') → I k ρ → g (.int (k : Nat)) ρ fun ρ1 => t K' ρ1) : dWalk g t K (rangeD 0 n) ρ := by
  have key : ∀ (m k : Nat) (ρ : DSt), k + m = n → I k ρ → dWalk g t K ((List.range' k m).map fun i => DV.int ((i : Nat) : Int)) ρ := by
    intro m
    induction m with
    | zero => intro k ρ e h; rw [show k = n by omega] at h; rw [List.range'_zero, List.map_nil, dWalk_nil]; exact hn ρ h
    | succ m ih =>
      intro k ρ e h
      rw [List.range'_succ, List.map_cons, dWalk_cons]
      exact hc k ρ { nx := fun ρ2 => dWalk g t K ((List.range' (k + 1) m).map fun i => DV.int ((i : Nat) : Int)) ρ2, rt := K.rt, bk := K.nx, ct := fun ρ2 => dWalk g t K ((List.range' (k + 1) m).map fun i => DV.int ((i : Nat) : Int)) ρ2 } (by omega)
        (fun ρ' q => ih (k + 1) ρ' (by omega) q) (fun ρ' q => ih (k + 1) ρ' (by omega) q) (fun _ q => q) (fun _ _ q => q) h
  have e : rangeD 0 n = (List.range' 0 n).map fun i => DV.int ((i : Nat) : Int) := by unfold rangeD; rw [List.range_eq_range']; simp
  rw [e]
  exact key n 0 ρ (by omega) h0
theorem range_map (n : Nat) : rangeD 0 n = (List.range n).map fun i => DV.int ((i : Nat) : Int) := by unfold rangeD; simp
theorem cutD_mid {α : Type} (f : α → DV) (xs : List α) (a b : Nat) : cutD (xs.map f) (some (a : Int)) (some (b : Int)) = ((xs.drop a).take (b - a)).map f := by
  unfold cutD
  rw [HT.sIx_nat, HT.sIx_nat, List.length_map, ← List.map_drop, ← List.map_take]
  congr 1
  by_cases h : a ≤ xs.length
  · rw [Nat.min_eq_left h]
    by_cases h2 : b ≤ xs.length
    · rw [Nat.min_eq_left h2]
    · rw [Nat.min_eq_right (by omega)]
      rw [List.take_of_length_le (by rw [List.length_drop]; omega), List.take_of_length_le (by rw [List.length_drop]; omega)]
  · rw [show min a xs.length = xs.length by omega, List.drop_length, List.drop_of_length_le (show xs.length ≤ a by omega)]; simp
theorem cutD_to {α : Type} (f : α → DV) (xs : List α) (b : Nat) : cutD (xs.map f) none (some (b : Int)) = (xs.take b).map f := by
  unfold cutD
  rw [HT.sIx_none, HT.sIx_nat, List.length_map, List.drop_zero, ← List.map_take, Nat.sub_zero]
  congr 1
  by_cases h2 : b ≤ xs.length
  · rw [Nat.min_eq_left h2]
  · rw [Nat.min_eq_right (by omega), List.take_length, List.take_of_length_le (by omega)]
theorem cutD_from {α : Type} (f : α → DV) (xs : List α) (a : Nat) : cutD (xs.map f) (some (a : Int)) none = (xs.drop a).map f := by
  unfold cutD
  rw [HT.sIx_none, HT.sIx_nat, List.length_map, ← List.map_drop, ← List.map_take]
  congr 1
  by_cases h : a ≤ xs.length
  · rw [Nat.min_eq_left h, List.take_of_length_le (by rw [List.length_drop]; omega)]
  · rw [show min a xs.length = xs.length by omega, List.drop_length, List.drop_of_length_le (show xs.length ≤ a by omega)]; simp
theorem slS_mid {s : List Str} {a b : Nat} {Q : DV → Prop} (h : Q (encS ((s.drop a).take (b - a)))) : fSl (encS s) (some (a : Int)) (some (b : Int)) Q := by
  rw [fSl_is]; show Q (.tup (cutD (s.map DV.str) _ _)); rw [cutD_mid]; exact h
theorem slS_to {s : List Str} {b : Nat} {Q : DV → Prop} (h : Q (encS (s.take b))) : fSl (encS s) none (some (b : Int)) Q := by
  rw [fSl_is]; show Q (.tup (cutD (s.map DV.str) _ _)); rw [cutD_to]; exact h
theorem slS_from {s : List Str} {a : Nat} {Q : DV → Prop} (h : Q (encS (s.drop a))) : fSl (encS s) (some (a : Int)) none Q := by
  rw [fSl_is]; show Q (.tup (cutD (s.map DV.str) _ _)); rw [cutD_from]; exact h
theorem addS_go {a b : List Str} {Q : DV → Prop} (hl : a.length + b.length ≤ 1000000) (h : Q (encS (a ++ b))) : fAdd (encS a) (encS b) Q := by
  rw [fAdd_is]; exact ⟨by rw [len_encS, len_encS]; exact line6 hl, by rw [← List.map_append]; exact h⟩
theorem addT_go {a b : Str} {Q : DV → Prop} (hl : a.length + b.length ≤ 1000000) (h : Q (.str (a ++ b))) : fAdd (.str a) (.str b) Q := by rw [fAdd_is]; exact ⟨line6 hl, h⟩
theorem addL_go {a b : List DV} {Q : DV → Prop} (hl : a.length + b.length ≤ 1000000) (h : Q (.lst (a ++ b))) : fAdd (.lst a) (.lst b) Q := by rw [fAdd_is]; exact ⟨line6 hl, h⟩
theorem slT_go {z : Str} {lo hi : Option Int} {Q : DV → Prop} (hl : z.length ≤ 1000000) (h : Q (.str (cutS z lo hi))) : fSl (.str z) lo hi Q := by rw [fSl_is]; exact ⟨line6 hl, h⟩
theorem slL_go {a : List DV} {lo hi : Option Int} {Q : DV → Prop} (h : Q (.lst (cutD a lo hi))) : fSl (.lst a) lo hi Q := by rw [fSl_is]; exact h
theorem slU_go {a : List DV} {lo hi : Option Int} {Q : DV → Prop} (h : Q (.tup (cutD a lo hi))) : fSl (.tup a) lo hi Q := by rw [fSl_is]; exact h
end DL

namespace DL
open PySem L2

/-- the signs of a text -/
abbrev sg (z : Str) : List Nat := z.cps.toList
theorem sg_len (z : Str) : (sg z).length = z.length := Array.length_toList
theorem sg_app (a b : Str) : sg (a ++ b) = sg a ++ sg b := by
  show (a.cps ++ b.cps).toList = _
  simp
theorem sg_mk (l : List Nat) : sg ⟨l.toArray⟩ = l := by simp [sg]
theorem sg_one (c : Nat) : sg ⟨#[c]⟩ = [c] := rfl
theorem sg_cut_to (z : Str) (n : Nat) : sg (cutS z none (some (n : Int))) = (sg z).take n := by
  unfold cutS
  rw [sg_mk, HT.sIx_none, HT.sIx_nat, List.drop_zero, Nat.sub_zero, ← sg_len]
  by_cases h : n ≤ (sg z).length
  · rw [Nat.min_eq_left h]
  · rw [show min n (sg z).length = (sg z).length by omega, List.take_length, List.take_of_length_le (by omega)]
theorem sg_cut_from (z : Str) (n : Nat) : sg (cutS z (some (n : Int)) none) = (sg z).drop n := by
  unfold cutS
  rw [sg_mk, HT.sIx_none, HT.sIx_nat, ← sg_len]
  by_cases h : n ≤ (sg z).length
  · rw [Nat.min_eq_left h, List.take_of_length_le (by rw [List.length_drop]; exact Nat.le_refl _)]
  · rw [show min n (sg z).length = (sg z).length by omega, List.drop_length, List.drop_of_length_le (show (sg z).length ≤ n by omega)]; simp
theorem sg_rep (z : Str) (n : Nat) : sg (repS z n) = (List.replicate n (sg z)).flatten := by unfold repS; rw [sg_mk]
theorem join_empty : ∀ ss : List Str, sg (Txt.join "" ss) = (ss.map sg).flatten := by
  intro ss
  rw [TL.join_eq]
  induction ss with
  | nil => rfl
  | cons x r ih =>
    cases r with
    | nil => simp [Str.join]
    | cons y r =>
      have e : Str.join "" (x :: y :: r) = (x ++ ("" : Str)) ++ Str.join "" (y :: r) := rfl
      rw [e, sg_app, sg_app, ih]
      have e0 : sg ("" : Str) = [] := by decide +kernel
      rw [e0]
      simp
/-- lowercase letters alone -/
def LowC (l : List Nat) : Prop := ∀ c ∈ l, c ∈ sg letters
theorem nameB_iff {z : Str} : nameB z = true ↔ 1 ≤ z.length ∧ z.length ≤ 6 ∧ LowC (sg z) := by
  unfold nameB LowC
  simp only [Bool.and_eq_true, decide_eq_true_eq, List.all_eq_true, strIn_one]
  constructor
  · rintro ⟨a, b, c⟩; exact ⟨by omega, by omega, fun x hx => c x hx⟩
  · rintro ⟨a, b, c⟩; exact ⟨by omega, by omega, fun x hx => c x hx⟩
theorem letters_at : ∀ i : Fin 26, atI (sg letters) ((i.val : Nat) : Int) = some (97 + i.val) := by decide +kernel
theorem letters_in : ∀ i : Fin 26, (97 + i.val) ∈ sg letters := by decide +kernel
theorem letters_len : letters.length = 26 := by decide +kernel
theorem letter_at {i : Int} (h0 : 0 ≤ i) (h1 : i < 26) : atI (sg letters) i = some (97 + i.toNat) := by
  have := letters_at ⟨i.toNat, by omega⟩
  simp only at this
  rwa [Int.toNat_of_nonneg h0] at this
theorem letter_low {i : Int} (h0 : 0 ≤ i) (h1 : i < 26) : (97 + i.toNat) ∈ sg letters := letters_in ⟨i.toNat, by omega⟩
/-- the k-th name around a stem -/
def nmS (z : Str) (u : Nat) (f : Int) (k : Nat) : Str := (cutS z none (some (u : Int)) ++ ⟨#[97 + ((f + 5 * (k : Int)) % 26).toNat]⟩) ++ cutS z (some (u : Int)) none
theorem sg_nm (z : Str) (u : Nat) (f : Int) (k : Nat) : sg (nmS z u f k) = (sg z).take u ++ [97 + ((f + 5 * (k : Int)) % 26).toNat] ++ (sg z).drop u := by
  unfold nmS
  rw [sg_app, sg_app, sg_cut_to, sg_cut_from, sg_one]
theorem nm_ok {z : Str} {u : Nat} {f : Int} {k : Nat} (hz : LowC (sg z)) (hl : z.length ≤ 5) : nameB (nmS z u f k) = true := by
  have e := sg_nm z u f k
  have l1 : (sg (nmS z u f k)).length = z.length + 1 := by rw [e, ← sg_len]; simp; omega
  rw [sg_len] at l1
  refine nameB_iff.mpr ⟨by omega, by omega, fun c hc => ?_⟩
  rw [e] at hc
  rcases List.mem_append.mp hc with hc | hc
  · rcases List.mem_append.mp hc with hc | hc
    · exact hz c (List.mem_of_mem_take hc)
    · rw [List.mem_singleton.mp hc]
      exact letter_low (Int.emod_nonneg _ (by decide)) (Int.emod_lt_of_pos _ (by decide))
  · exact hz c (List.mem_of_mem_drop hc)
theorem nm_inj {z : Str} {u : Nat} {f : Int} {k j : Nat} (hk : k < 26) (hj : j < 26) (h : nmS z u f k = nmS z u f j) : k = j := by
  have e : sg (nmS z u f k) = sg (nmS z u f j) := by rw [h]
  rw [sg_nm, sg_nm, List.append_assoc, List.append_assoc] at e
  have e2 := List.append_cancel_left e
  simp only [List.singleton_append, List.cons.injEq] at e2
  have e3 := e2.1
  have a1 := Int.emod_nonneg (f + 5 * (k : Int)) (show (26 : Int) ≠ 0 by decide)
  have a2 := Int.emod_nonneg (f + 5 * (j : Int)) (show (26 : Int) ≠ 0 by decide)
  omega
theorem nms_nodup {z : Str} {u : Nat} {f : Int} {n : Nat} (hn : n ≤ 26) : ((List.range n).map (nmS z u f)).Nodup := by
  rw [List.Nodup, List.pairwise_map]
  refine List.Pairwise.imp_of_mem ?_ (List.nodup_range (n := n))
  intro a b ha hb hab e
  exact hab (nm_inj (by have := List.mem_range.mp ha; omega) (by have := List.mem_range.mp hb; omega) e)
/-- texts drawn one by one: their join -/
theorem low_join {ss : List Str} (h : ∀ x ∈ ss, LowC (sg x)) : LowC (sg (Txt.join "" ss)) := by
  rw [join_empty]
  intro c hc
  obtain ⟨l, hl, hc⟩ := List.mem_flatten.mp hc
  obtain ⟨x, hx, rfl⟩ := List.mem_map.mp hl
  exact h x hx c hc
theorem low_rep {z : Str} (h : LowC (sg z)) (n : Nat) : LowC (sg (repS z n)) := by
  rw [sg_rep]
  intro c hc
  obtain ⟨l, hl, hc⟩ := List.mem_flatten.mp hc
  rw [(List.mem_replicate.mp hl).2] at hc
  exact h c hc
theorem len_rep (z : Str) (n : Nat) : (repS z n).length = n * z.length := by
  rw [← sg_len, sg_rep, List.length_flatten, List.map_replicate, List.sum_replicate_nat, sg_len]
theorem len_join_ones {ss : List Str} (h : ∀ x ∈ ss, x.length = 1) : (Txt.join "" ss).length = ss.length := by
  rw [← sg_len, join_empty, List.length_flatten, List.map_map]
  induction ss with
  | nil => rfl
  | cons x r ih =>
    simp only [List.map_cons, List.sum_cons, Function.comp, List.length_cons]
    have := ih fun y hy => h y (List.mem_cons_of_mem _ hy)
    rw [this, sg_len, h x List.mem_cons_self]; omega
theorem draws_any {α : Type} (e : α → DV) (P : α → Prop) {g : AG} {te : AE} {vs : List Nat} {fin : List DV → DSt → Prop} {ρ : DSt} {n : Nat} (hr : wipeD ρ vs = ρ)
    (hs : ∀ (i : Nat) (Q : DV → DSt → Prop), i < n → (∀ x ρ', P x → wipeD ρ' vs = ρ → Q (e x) ρ') → g (.int (i : Nat)) ρ fun ρ2 => te ρ2 Q)
    (hf : ∀ xs : List α, xs.length = n → (∀ x ∈ xs, P x) → fin (xs.map e) ρ) : dLcW g dYes te vs fin (rangeD 0 n) [] ρ := by
  have key : ∀ (m k : Nat) (xs : List α), k + m = n → xs.length = k → (∀ x ∈ xs, P x) → dLcW g dYes te vs fin ((List.range' k m).map fun i => DV.int ((i : Nat) : Int)) (xs.map e) ρ := by
    intro m
    induction m with
    | zero => intro k xs hk hl hp; rw [List.range'_zero, List.map_nil, dLcW_nil]; exact hf xs (by omega) hp
    | succ m ih =>
      intro k xs hk hl hp
      rw [List.range'_succ, List.map_cons, dLcW_cons]
      refine hs k (fun y ρ4 => dLcW g dYes te vs fin ((List.range' (k + 1) m).map fun i => DV.int ((i : Nat) : Int)) (xs.map e ++ [y]) (wipeD ρ4 vs)) (by omega) fun x ρ' hx hw => ?_
      rw [hw]
      have := ih (k + 1) (xs ++ [x]) (by omega) (by simp [hl]) (fun y hy => by
        rcases List.mem_append.mp hy with h | h
        · exact hp y h
        · rw [List.mem_singleton.mp h]; exact hx)
      rw [List.map_append] at this
      exact this
  have e0 : rangeD 0 n = (List.range' 0 n).map fun i => DV.int ((i : Nat) : Int) := by unfold rangeD; rw [List.range_eq_range']; simp
  rw [e0]
  exact key n 0 [] (by omega) rfl (fun _ h => nomatch h)
/-- of(bag, text) -/
theorem of_str {b : Addr} {z : Str} {Q : DV → Prop} {E : ED} (h0 : 0 < z.length) (hl : z.length ≤ 1000000) (h : ∀ c ∈ sg z, Q (.str ⟨#[c]⟩)) : spN 2 spOf [.bag b, .str z] Q E := ⟨rfl, b, _, rfl, h0, line6 hl, h⟩
/-- of(bag, list) -/
theorem of_lst {α : Type} {e : α → DV} {b : Addr} {xs : List α} {Q : DV → Prop} {E : ED} (h0 : xs ≠ []) (hl : xs.length ≤ 1000000) (h : ∀ x ∈ xs, Q (e x)) : spN 2 spOf [.bag b, .lst (xs.map e)] Q E :=
  ⟨rfl, b, _, rfl, by simpa using h0, by rw [List.length_map]; exact line6 hl, fun d hd => by obtain ⟨x, hx, rfl⟩ := List.mem_map.mp hd; exact h x hx⟩
theorem range_line' {lo : Int} {n : Nat} (h : n ≤ 1000000) : (rangeD lo n).length ≤ sizeLine := by rw [range_len]; exact line6 h
theorem atI_last {α : Type} {xs : List α} (h : xs ≠ []) : atI xs (-1) = some (xs.getLast h) := by
  have hl : 0 < xs.length := List.length_pos_iff.mpr h
  have e : ixN xs.length (-1) = some (xs.length - 1) := by
    unfold ixN
    rw [if_neg (by omega), if_pos (by omega)]
    congr 1
    omega
  unfold atI
  rw [e]
  show xs[xs.length - 1]? = _
  rw [List.getElem?_eq_getElem (by omega), List.getLast_eq_getElem]
theorem mem_setR {x : Str} {v : List Str} {p : Str × List Str} : ∀ {r : Rules}, p ∈ setR r x v → p ∈ r ∨ p = (x, v)
  | [], h => .inr (by simpa [setR] using h)
  | q :: r, h => by
    unfold setR at h
    split at h
    · rcases List.mem_cons.mp h with e | e
      · exact .inr e
      · exact .inl (List.mem_cons_of_mem _ e)
    · rcases List.mem_cons.mp h with e | e
      · exact .inl (by rw [e]; exact List.mem_cons_self)
      · rcases mem_setR e with h | h
        · exact .inl (List.mem_cons_of_mem _ h)
        · exact .inr h
theorem setR_len {x : Str} {v : List Str} {r : Rules} (h : x ∈ namesR r) : (setR r x v).length = r.length := by
  have := names_setR (v := v) h
  have h2 : (namesR (setR r x v)).length = (namesR r).length := by rw [this]
  simpa [namesR] using h2
theorem GrOk.set {r : Rules} (g : GrOk r) {x y : Str} (hx : x ∈ namesR r) (hy : y ∈ namesR r) : GrOk (setR r x (getR r y)) := by
  have e := names_setR (v := getR r y) hx
  refine ⟨by rw [e]; exact g.nd, by rw [setR_len hx]; exact g.len, by rw [e]; exact g.nm, fun p hp => ?_⟩
  rw [e]
  rcases mem_setR hp with h | rfl
  · exact g.parts p h
  · exact g.get hy
theorem putD_set {r : Rules} {x : Str} {v : List Str} (nd : (namesR r).Nodup) (h : x ∈ namesR r) : putD (keysR r) (r.map fun p => encS p.2) (.inr x) (encS v) = (keysR (setR r x v), (setR r x v).map fun p => encS p.2) := by
  obtain ⟨r', e1, e2⟩ := putD_R (v := v) nd (x := x)
  rw [if_pos h] at e2
  rw [e1, e2]
theorem len_keysR (r : Rules) : (keysR r).length = r.length := List.length_map ..
def pP : Sp1 → PyData
  | .ex p => .tuple [.str "expand", .int p]
  | .co p x => .tuple [.str "contract", .int p, .str x]
def okX : Sp1 → Prop
  | .ex _ => True
  | .co _ x => PyData.strOk x = true
theorem toP_encP (t : Sp1) : toP (encP t) = some (pP t) := by cases t <;> rfl
theorem toPs_steps : ∀ ts : List Sp1, toPs (ts.map encP) = some (ts.map pP)
  | [] => rfl
  | t :: ts => by simp only [List.map_cons, toPs, toP_encP t, toPs_steps ts]
theorem lay_step {t : Sp1} (h : okX t) : PyData.canLay0 (pP t) = true := by
  have e : PyData.strOk "expand" = true := by decide +kernel
  have c : PyData.strOk "contract" = true := by decide +kernel
  cases t with
  | ex p => simp [pP, PyData.canLay0, PyData.canLayAll0, e]
  | co p x => simp [pP, PyData.canLay0, PyData.canLayAll0, c, show PyData.strOk x = true from h]
theorem dep_step (t : Sp1) : PyData.depth (pP t) = 1 := by cases t <;> rfl
theorem lay_steps : ∀ {ts : List Sp1}, (∀ t ∈ ts, okX t) → PyData.canLayAll0 (ts.map pP) = true
  | [], _ => rfl
  | t :: ts, h => by simp [PyData.canLayAll0, lay_step (h t List.mem_cons_self), lay_steps fun y hy => h y (List.mem_cons_of_mem _ hy)]
theorem dep_steps : ∀ ts : List Sp1, PyData.depthAll (ts.map pP) ≤ 1
  | [] => by decide
  | t :: ts => by have := dep_steps ts; simp [PyData.depthAll, dep_step t]; omega
theorem shaped_steps {ts : List Sp1} (h : ∀ t ∈ ts, okX t) : SeqAt.shaped (.list (ts.map pP)) = true := by
  have := dep_steps ts
  simp [SeqAt.shaped, PyData.canLay0, PyData.depth, lay_steps h]
  omega
theorem eqP_nil {ts : List Sp1} {Q : Bool → Prop} (h : ∀ t ∈ ts, okX t) (hq : Q ts.isEmpty) : fEqB (.lst (ts.map encP)) (.lst []) Q := by
  unfold fEqB
  refine ⟨.list (ts.map pP), .list [], by simp [toP, toPs_steps], rfl, shaped_steps h, rfl, ?_⟩
  cases ts <;> exact hq
theorem okP_okX {r : Rules} {s : List Str} {t : Sp1} (g : GrOk r) (h : okP r s t) : okX t := by
  cases t with
  | ex p => exact trivial
  | co p x => exact nameB_ok (g.nm x h.2.1)
theorem runP_app {r : Rules} : ∀ {s : List Str} {ts us : List Sp1}, runP r s (ts ++ us) = runP r (runP r s ts) us
  | _, [], _ => rfl
  | _, t :: ts, us => runP_app (ts := ts)
theorem okRun_app {r : Rules} : ∀ {s : List Str} {ts us : List Sp1}, okRun r s ts → okRun r (runP r s ts) us → okRun r s (ts ++ us)
  | _, [], _, _, h => h
  | _, t :: ts, us, ⟨a, b⟩, h => ⟨a, okRun_app (ts := ts) b h⟩
theorem flat_len {β : Type} {B : Nat → List β} {m : Nat} (h : ∀ p, (B p).length ≤ m) (k : Nat) : ((List.range k).flatMap B).length ≤ m * k := by
  induction k with
  | zero => simp
  | succ k ih => rw [List.range_succ, List.flatMap_append, List.length_append, List.flatMap_singleton, Nat.mul_succ]; have := h k; omega
def isCo : Sp1 → Bool
  | .ex _ => false
  | .co _ _ => true
theorem con_len {r : Rules} {s : List Str} {t : Sp1} (h : okP r s t) (c : isCo t = true) : (aftP r s t).length ≤ s.length := by
  cases t with
  | ex p => cases c
  | co p x =>
    obtain ⟨h1, h2, h3⟩ := h
    unfold matchAt at h3
    simp only [Bool.and_eq_true, decide_eq_true_eq, Bool.not_eq_true', List.isEmpty_eq_false_iff] at h3
    have e := congrArg List.length h3.2
    rw [List.length_take, List.length_drop] at e
    have e0 : 0 < (getR r x).length := List.length_pos_iff.mpr h3.1
    show (conS r s p x).length ≤ _
    unfold conS
    simp only [List.length_append, List.length_take, List.length_drop, List.length_singleton]
    omega
theorem run_ok {r : Rules} (g : GrOk r) : ∀ {s : List Str} {ts : List Sp1}, s ≠ [] → (∀ x ∈ s, x ∈ namesR r) → okRun r s ts → runP r s ts ≠ [] ∧ ∀ x ∈ runP r s ts, x ∈ namesR r
  | _, [], a, b, _ => ⟨a, b⟩
  | _, t :: ts, a, b, ⟨c, d⟩ => run_ok (ts := ts) g (aft_len g b c).2.1 (aft_len g b c).2.2 d
theorem take_app1 {α : Type} (l : List α) (t : α) (j : Nat) : (l ++ [t]).take j = l.take j ∨ (l ++ [t]).take j = l ++ [t] := by
  by_cases h : j ≤ l.length
  · exact .inl (List.take_append_of_le_length h)
  · exact .inr (List.take_of_length_le (by rw [List.length_append]; simp; omega))
theorem poss_len {r : Rules} {s : List Str} (g : GrOk r) : (possP r s).length ≤ 9 * s.length := by
  unfold possP
  rw [List.length_append, List.length_map]
  have h1 := List.length_filter_le (fun p => !(getR r (s.getD p "")).isEmpty) (List.range s.length)
  rw [List.length_range] at h1
  have h2 := flat_len (m := 8) (B := fun p => (((srtS ((namesR r).filter fun x => !(getR r x).isEmpty)).filter fun x => decide ((s.drop p).take (getR r x).length = getR r x)).map fun x => Sp1.co p x)) (fun p => by
    rw [List.length_map]
    have a := List.length_filter_le (fun x => decide ((s.drop p).take (getR r x).length = getR r x)) (srtS ((namesR r).filter fun x => !(getR r x).isEmpty))
    rw [srtS_len] at a
    have b := List.length_filter_le (fun x => !(getR r x).isEmpty) (namesR r)
    have c := g.len
    have d : (namesR r).length = r.length := List.length_map ..
    omega) s.length
  omega
theorem SeqOk.srt {r : Rules} {s : List Str} (h : SeqOk r s) : SeqOk (srtR r) s := ⟨h.1, fun x hx => mem_srtR.mpr (h.2.1 x hx), h.2.2⟩
theorem okP_srt {r : Rules} {s : List Str} {t : Sp1} (hs : ∀ x ∈ s, x ∈ namesR r) (h : okP r s t) : okP (srtR r) s t := by
  cases t with
  | ex p => exact ⟨h.1, by rw [getR_srtR (hs _ (getD_mem h.1))]; exact h.2⟩
  | co p x => exact ⟨h.1, mem_srtR.mpr h.2.1, by unfold matchAt; rw [getR_srtR h.2.1]; exact h.2.2⟩
theorem aftP_srt {r : Rules} {s : List Str} {t : Sp1} (hs : ∀ x ∈ s, x ∈ namesR r) (h : okP r s t) : aftP (srtR r) s t = aftP r s t := by
  cases t with
  | ex p => show expS (srtR r) s p = expS r s p; unfold expS; rw [getR_srtR (hs _ (getD_mem h.1))]
  | co p x => show conS (srtR r) s p x = conS r s p x; unfold conS; rw [getR_srtR h.2.1]
end DL

namespace DL
open PySem L2

end DL

namespace DL
open PySem L2
section
variable {Z : Zx} {X : Cx} {e : Expr} {a : AE} {pos : Pos}
def fFmt (d : DV) (Q : Str → Prop) : Prop := match d with
  | .str y => y.length ≤ sizeLine ∧ Q y
  | .int i => i.natAbs.log2 < 1920 ∧ Q (toString i)
  | _ => False
/-- {x} -/
def dFmt (a : AE) : AE := fun ρ Q => a ρ fun d ρ1 => fFmt d fun z => Q (.str z) ρ1
theorem de_fmt (h : DE Z X e a) : DE Z X (.FormattedValue e (-1) none pos) (dFmt a) := by
  refine ⟨pe_imp (pe_fmt h.pe) fun σ H Q h => ?_⟩
  obtain ⟨B, F, ρ, Q', w, r0, q, k⟩ := h
  refine ⟨B, F, ρ, _, w, r0, q, fun F1 H1 ρ1 dx x w1 x1 r1 hx q1 => ?_⟩
  cases dx with
  | str y => exact .inl ⟨y, rep_str.mp hx, q1.1, k F1 H1 ρ1 _ _ w1 x1 r1 (rep_str.mpr rfl) q1.2⟩
  | int i => exact .inr ⟨i, rep_int.mp hx, q1.1, k F1 H1 ρ1 _ _ w1 x1 r1 (rep_str.mpr rfl) q1.2⟩
  | _ => exact False.elim q1
def dJ : List AE → Str → DSt → (Str → DSt → Prop) → Prop
  | [], acc, ρ, Q => Q acc ρ
  | a :: as, acc, ρ, Q => a ρ fun d ρ1 => ∃ y, d = .str y ∧ (acc ++ y).length ≤ sizeLine ∧ dJ as (acc ++ y) ρ1 Q
def dJoin (as : List AE) : AE := fun ρ Q => dJ as Str.empty ρ fun out ρ1 => Q (.str out) ρ1
theorem lift_js {σ : St} {Q : Str → Hp → Prop} {Qd : Str → DSt → Prop} : ∀ {as : List AE} {acc : Str} {L F ρ} {H : Hp}, Wd (Z.b L) F H → RSt (Z.b L) F ρ σ H → dJ as acc ρ Qd →
    (∀ F1 H1 ρ1 out, Wd (Z.b L) F1 H1 → Ext F F1 → RSt (Z.b L) F1 ρ1 σ H1 → Qd out ρ1 → Q out H1) → tJs (as.map (tD Z)) acc σ H Q
  | [], acc, L, F, ρ, H, w, r, q, k => k F H ρ acc w (Ext.refl F) r q
  | a :: as, acc, L, F, ρ, H, w, r, q, k => by
    refine ⟨L, F, ρ, _, w, r, q, fun F1 H1 ρ1 d v w1 x1 r1 hr q1 => ?_⟩
    obtain ⟨y, rfl, hz, q1⟩ := q1
    exact ⟨y, rep_str.mp hr, hz, lift_js w1 r1 q1 fun F2 H2 ρ2 out w2 x2 r2 q2 => k F2 H2 ρ2 out w2 (x1.trans x2) r2 q2⟩
theorem dj_nil : PJ X [] (([] : List AE).map (tD Z)) := .nil
theorem dj_cons {es : List Expr} {as : List AE} (h : DE Z X e a) (r : PJ X es (as.map (tD Z))) : PJ X (e :: es) ((a :: as).map (tD Z)) := .cons h.pe r
/-- f'..' of two parts or more -/
theorem de_joined {v1 v2 : Expr} {rest : List Expr} {as : List AE} (h : PJ X (v1 :: v2 :: rest) (as.map (tD Z))) : DE Z X (.JoinedStr (v1 :: v2 :: rest) pos) (dJoin as) := by
  refine ⟨pe_imp (pe_joined h) fun σ H Q h => ?_⟩
  obtain ⟨B, F, ρ, Q', w, r0, q, k⟩ := h
  exact lift_js w r0 q fun F1 H1 ρ1 out w1 x1 r1 q1 => k F1 H1 ρ1 _ _ w1 x1 r1 (rep_str.mpr rfl) q1
end
end DL

namespace DL
open PySem L2

section
variable {Z : Zx} {X : Cx} {pos p apos : Pos} {e o : Expr} {es : List Expr} {a : AE} {t : AA} {C : Addr} {f m x : Str} {k n : Nat}
end

section
variable {P : Program} {w : World} {K : PySem.W.Frag} {mg : Str → Option Value} {base : Heap}
end

section
variable {Z : Zx} {X : Cx} {pos p apos : Pos} {e o : Expr} {es : List Expr} {a : AE} {t : AA} {C : Addr} {f m x : Str} {k n : Nat} {CX : CXT} {wc : WD} {sp : DSp}
end
end DL

namespace DL
open PySem L2 LamX EL

def TabC (q : Str) : Cell := ⟨fun fz o => ∃ ps : Array Value, o = .tbl ps ∧ TriplesOk ps.toList ∧ ∀ (pos : Pos) (cv : Value), codeAmong pos ps.toList = some cv → ∃ c, cv = .ref c ∧ fz c = some (CodeO c q),
  fun f g o k ⟨ps, e, t, h⟩ => ⟨ps, e, t, fun pos cv hc => let ⟨c, e1, e2⟩ := h pos cv hc; ⟨c, e1, k _ _ e2 ⟨_, rfl⟩⟩⟩⟩
/-- the tables T of a base, and nothing else that grows -/
structure TbOk (T : List (Addr × Str)) (F : Wo) : Prop where
  has : ∀ p ∈ T, F.ce p.1 = some (TabC p.2)
  all : ∀ a f, F.ce a = some f → (∃ q, (a, q) ∈ T ∧ f = TabC q) ∨ ∀ g o, f.p g o → NoT o ∧ ¬ IsX o
theorem codeO_x {c : Addr} {q : Str} : IsX (CodeO c q) := ⟨_, rfl⟩
section
variable {B : Bs} {F : Wo} {H H1 : Hp} {T : List (Addr × Str)}
theorem Wd.ceB (w : Wd B F H) : F.ce = B.F.ce := by
  funext a
  cases e : B.F.ce a with
  | some f => exact w.ext.2.1 a f e
  | none => cases k : F.ce a with
    | none => rfl
    | some f => rw [w.nce a f k] at e; cases e
theorem Wd.fzX (w : Wd B F H) {a : Addr} {o : HO} (e : F.fz a = some o) (h : IsX o) : H a = some o := by
  rcases w.fz a o e with q | ⟨⟨kvs, q⟩, _⟩
  · exact q
  · obtain ⟨φ, z⟩ := h; rw [q] at z; cases z
theorem Wd.tabs (w : Wd B F H) (k : TbOk T B.F) : Tabs T H := fun p hp => by
  have e := k.has p hp
  rw [← w.ceB] at e
  obtain ⟨o, ho, ps, rfl, ok, all⟩ := w.ce _ _ e
  exact ⟨ps, ho, ok, fun pos cv hc => let ⟨c, e1, e2⟩ := all pos cv hc; ⟨c, e1, w.fzX e2 codeO_x⟩⟩
/-- told by a table -/
def Told (T : List (Addr × Str)) (H1 : Hp) (a : Addr) : Prop := ∃ p ∈ T, ∃ (ps : Array Value) (pos : Pos), H1 p.1 = some (.tbl ps) ∧ codeAmong pos ps.toList = some (.ref a)
open Classical in
noncomputable def Wo.told (F : Wo) (T : List (Addr × Str)) (H1 : Hp) : Wo := ⟨fun a => match F.fz a with
  | some o => some o
  | none => if Told T H1 a then H1 a else none, F.ce, F.lk⟩
theorem told_at (T1 : Tabs T H1) {a : Addr} (h : Told T H1 a) : ∃ q, H1 a = some (CodeO a q) := by
  obtain ⟨p, hp, ps, pos, e, hc⟩ := h
  obtain ⟨ps', e1, _, all⟩ := T1 p hp
  rw [e] at e1; cases e1
  obtain ⟨c, e2, e3⟩ := all pos _ hc
  cases e2
  exact ⟨_, e3⟩
theorem told_fz (T1 : Tabs T H1) {a : Addr} {o : HO} (e : (F.told T H1).fz a = some o) : F.fz a = some o ∨ (F.fz a = none ∧ H1 a = some o ∧ ∃ q, o = CodeO a q) := by
  unfold Wo.told at e
  cases k : F.fz a with
  | some u => simp only [k] at e; exact .inl e
  | none =>
    simp only [k] at e
    split at e
    next h => obtain ⟨q, hq⟩ := told_at T1 h; exact .inr ⟨rfl, e, q, by rw [hq] at e; cases e; rfl⟩
    next => cases e
theorem told_none (T1 : Tabs T H1) {a : Addr} {o : HO} (n : F.fz a = none) (h : H1 a = some o) (hx : ¬ IsX o) : (F.told T H1).fz a = none := by
  cases k : (F.told T H1).fz a with
  | none => rfl
  | some u =>
    rcases told_fz T1 k with y | ⟨_, y, q, rfl⟩
    · rw [n] at y; cases y
    · rw [h] at y; cases y; exact (hx codeO_x).elim
/-- a lambda has been made: the tables grew -/
theorem Wd.grown (w : Wd B F H) (k : TbOk T B.F) (eN : ExtN H H1) (T1 : Tabs T H1) : Stp B F H (F.told T H1) H1 := by
  have x : Ext F (F.told T H1) := ⟨fun a o e => by unfold Wo.told; simp only [e], fun _ _ e => e, fun _ _ e => e⟩
  have ct : ∀ {a f}, F.ce a = some f → (∃ q, (a, q) ∈ T ∧ f = TabC q) ∨ ∀ g o, f.p g o → NoT o ∧ ¬ IsX o := fun {a f} e => k.all a f (by rw [← w.ceB]; exact e)
  refine ⟨⟨w.ext.trans x, fun a o e => ?_, fun a f e => ?_, fun a o e => ?_, fun a f e => w.nce a f e, fun a o e nt c => ?_, fun a o e => ?_, fun a o e => ?_, fun a ob e => ?_, fun a o e => ?_, w.lt⟩, x, fun ρ σ r => ⟨fun i d e => ?_, fun i d e => ?_, r.dis, r.len⟩⟩
  · rcases told_fz T1 e with y | ⟨_, y, _⟩
    · rcases w.fz a o y with h | ⟨h, ob, z⟩
      · exact .inl (eN a o h (w.nt a o y))
      · exact .inr ⟨h, ob, eN a _ z (fun _ z => by cases z)⟩
    · exact .inl y
  · rcases ct e with ⟨q, hq, rfl⟩ | h
    · obtain ⟨ps, e1, t, all⟩ := T1 _ hq
      refine ⟨_, e1, ps, rfl, t, fun pos cv hc => ?_⟩
      obtain ⟨c, e2, e3⟩ := all pos cv hc
      refine ⟨c, e2, ?_⟩
      subst e2
      unfold Wo.told
      cases z : F.fz c with
      | none => simp only [z]; rw [if_pos ⟨_, hq, ps, pos, e1, hc⟩]; exact e3
      | some u =>
        simp only [z]
        rcases w.fz c u z with y | ⟨_, ob, y⟩
        · rw [eN c u y (w.nt c u z)] at e3; exact e3
        · rw [eN c _ y (fun _ z => by cases z)] at e3
          unfold CodeO at e3; cases e3
    · obtain ⟨o, ho, hp⟩ := w.ce a f e
      exact ⟨o, eN a o ho (h _ _ hp).1, f.mono _ _ _ (fun a u e _ => x.1 a u e) hp⟩
  · rcases told_fz T1 e with y | ⟨_, _, q, rfl⟩
    · exact w.nfz a o y
    · exact .inr (.inr codeO_x)
  · rcases w.fr a o e nt c with h | ⟨h1, h2, ob, h3⟩
    · exact .inl (eN a o h nt)
    · exact .inr ⟨h1, h2, ob, eN a _ h3 (fun _ z => by cases z)⟩
  · rcases told_fz T1 e with y | ⟨_, y, q, rfl⟩
    · exact w.dj a o y
    · show F.ce a = none
      cases z : F.ce a with
      | none => rfl
      | some f =>
        rcases ct z with ⟨q', hq, rfl⟩ | h
        · obtain ⟨ps, e1, _⟩ := T1 _ hq
          rw [y] at e1; cases e1
        · obtain ⟨o, ho, hp⟩ := w.ce a f z
          have := eN a o ho (h _ _ hp).1
          rw [y] at this; cases this
          exact ((h _ _ hp).2 codeO_x).elim
  · obtain ⟨h, b0, n1, n2⟩ := w.lo a o e
    have nl := w.lt a o e
    exact ⟨eN a o h nl.1, b0, told_none T1 n1 (eN a o h nl.1) nl.2, n2⟩
  · obtain ⟨kvs, f, h⟩ := w.lk a ob e
    exact ⟨kvs, x.1 _ _ f, eN a _ h (fun _ z => by cases z)⟩
  · rcases told_fz T1 e with y | ⟨_, _, q, rfl⟩
    · exact w.nt a o y
    · exact codeO_ne
  · obtain ⟨v, h, q⟩ := r.val i d e; exact ⟨v, h, q.mono x⟩
  · obtain ⟨a, h, q, b0, n1, n2, n3⟩ := r.own i d e
    obtain ⟨u, hu⟩ := q.there
    have nl := q.noT hu
    have h1 := eN a u hu nl.1
    exact ⟨a, h, q.keep x (fun o z => by rw [hu] at z; cases z; exact h1), b0, told_none T1 n1 h1 nl.2, n2, n3⟩
end

def frzD : List Nat → DSt → DSt
  | [], ρ => ρ
  | v :: vs, ρ => frzD vs (match ρ[v]? with
    | some (some (.own d)) => ρ.set v (some (.val d))
    | _ => ρ)
theorem RSt.frzD {B : Bs} {H : Hp} {σ : St} : ∀ {vs : List Nat} {F : Wo} {ρ : DSt}, Wd B F H → RSt B F ρ σ H → ∃ F', Wd B F' H ∧ Ext F F' ∧ RSt B F' (DL.frzD vs ρ) σ H
  | [], F, ρ, w, r => ⟨F, w, Ext.refl F, r⟩
  | v :: vs, F, ρ, w, r => by
    unfold DL.frzD
    split
    next d e =>
      obtain ⟨p, o, _, w', x', r', _⟩ := w.freeze r e
      obtain ⟨F2, w2, x2, r2⟩ := RSt.frzD (vs := vs) w' r'
      exact ⟨F2, w2, x'.trans x2, r2⟩
    next => exact RSt.frzD w r
/-- what is made stands aside -/
def valsD (ρ : DSt) : DSt := ρ.map fun l => match l with
  | some (.val d) => some (.val d)
  | _ => none
theorem valsD_get {ρ : DSt} {i : Nat} {l : Lv} (h : (valsD ρ)[i]? = some (some l)) : ∃ d, l = .val d ∧ ρ[i]? = some (some (.val d)) := by
  unfold valsD at h
  rw [List.getElem?_map] at h
  cases e : ρ[i]? with
  | none => rw [e] at h; cases h
  | some m =>
    rw [e] at h
    match m, h with
    | some (.val d), h => simp only [Option.map_some, Option.some.injEq] at h; exact ⟨d, h.symm, rfl⟩
    | some (.own d), h => simp at h
    | none, h => simp at h
theorem RSt.vals {B : Bs} {F : Wo} {ρ : DSt} {σ : St} {H H0 : Hp} {L : Addr → Option HO} (r : RSt B F ρ σ H) : RSt ⟨F, H0, L⟩ F (valsD ρ) σ H := by
  refine ⟨fun i d e => ?_, fun i d e => ?_, fun i j d f p _ h1 => ?_, by unfold valsD; rw [List.length_map]; exact r.len⟩
  · obtain ⟨d', e1, e2⟩ := valsD_get e; cases e1; exact r.val i d e2
  · obtain ⟨d', e1, e2⟩ := valsD_get e; cases e1
  · obtain ⟨d', e1, e2⟩ := valsD_get h1; cases e1

/-- an error class and the clause that takes it -/
structure Trc (K : PySem.W.Frag) (l : List (List Value × EK)) (C : Addr) (k : EK) : Prop where
  xf : XfC K C
  pk : pick K (.ref C) l k
  wd : PySem.W.findIn K (.ref C) "word" = some none
  fl : match k with
    | .one f => PySem.W.findIn K (.ref C) f = some none
    | .two f g => PySem.W.findIn K (.ref C) f = some none ∧ PySem.W.findIn K (.ref C) g = some none
    | .zero => True
def ansE (ns : List Str) (ds : List DV) (w : DV) (Q : DV → Prop) : EK → Prop
  | .one f => ∃ v, lookF ns ds f = some v ∧ Q (.tup [w, v])
  | .two f g => ∃ v u, lookF ns ds f = some v ∧ lookF ns ds g = some u ∧ Q (.tup [w, .tup [v, u]])
  | .zero => Q (.tup [w, .non])
def TryAns (K : PySem.W.Frag) (l : List (List Value × EK)) (Q : DV → Prop) : ED := fun C ns ds => ∃ k w, Trc K l C k ∧ lookF ns ds "word" = some w ∧ ansE ns ds w Q k
/-- _law_try(lambda: body), vs: what it captures -/
def dTry (K : PySem.W.Frag) (l : List (List Value × EK)) (vs : List Nat) (b : WD → AE) : AE := fun ρ Q =>
  b (fun C ns ds _ => TryAns K l (fun d => Q d (frzD vs ρ)) C ns ds) (valsD (frzD vs ρ)) (fun d _ => Q (.tup [.str "", d]) (frzD vs ρ))

/-- `_law_try` as the text has it -/
structure TryD (P : Program) (w : World) (K : PySem.W.Frag) (mg : Str → Option Value) (base : Heap) (l : List (List Value × EK)) : Prop where
  ex : ∃ (g : Addr) (pg : Arguments) (bg : List Stmt) (sg : Scope) (kV doc pm cdv ct oc : Value) (an od : Option Addr) (osl : Array (Option Value)),
    mg "_law_try" = some (.ref g) ∧ PySem.W.keepIn K (.ref g) = true ∧ K.lookup g = some ⟨oc, od, .func (PySem.W.fnOf "_law_try" "_law_try" pg bg sg .none kV doc pm an cdv ct), osl⟩ ∧ PySem.W.codeIn K cdv "_law_try" = true ∧
    L2.Binds K (PySem.W.fnOf "_law_try" "_law_try" pg bg sg .none kV doc pm an cdv ct) ["_law_ask"] [] ∧ FnScope ["_law_ask", "e"] ["_law_ask"] sg ∧ Vis sg "_law_ask" ∧
    ∀ (X : Cx) (q : Str), X.prog = P → X.w = w → X.K = K → X.mg = mg → X.base = base → GivesTo X ["_law_ask", "e"] "_law_try" sg g cdv bg "_law_ask" q (TTry K l)
section
variable {Z : Zx} {X : Cx} {c P : Addr} {p lpos pos : Pos} {params : Arguments} {body : Expr} {scope : Scope} {l : List (List Value × EK)} {k : Nat} {b : WD → AE}
theorem de_tryT {T : List (Addr × Str)} {P0 : Program} {w0 : World} {K0 : PySem.W.Frag} {mg0 : Str → Option Value} {base0 : Heap} (vs : List Nat) (D : TryD P0 w0 K0 mg0 base0 l) (hr : Room (k + 2) X.A) (TB : TabB X.base X.mg c P) (hcode : X.env.code = .ref c) (hT : TbOk T Z.F) (hmT : (P, X.env.qual ++ "<lambda>") ∈ T) (huT : ∀ p ∈ T, p.1 = P → p.2 = X.env.qual ++ "<lambda>")
    (hbody : ∀ (F0 : Wo) (H0 : Hp) (W : WX) (w' : WD) (lk : Lk F0 H0 W w') (A : Around) (outer : List Env) (s : Shared) (H : Hp) (E : XK) (f c' : Addr), Room k (A.deeper (lamEnv X scope s.heap.objs.size f c')) →
      Takes (lamCx X A outer s H E scope f c') W → DE ⟨F0, H0, W, w', lk⟩ (lamCx X A outer s H E scope f c') body (b w'))
    (hg : Gl X "_law_try" := by rfl) (L : LamS X.env.scope scope := by exact LamX.lamS_by (by decide +kernel)) (hdef : defaultsOf params X.env = ([], []) := by rfl)
    (hbind : ∀ (q : Str) (cl : List (Str × Addr)) (pm cv ctv : Value), bindArgs (PySem.W.kla_fn "<lambda>" q params body scope cl pm cv ctv) ⟨[], []⟩ = pure [] := by intro _ _ _ _ _; rfl)
    (e1 : X.prog = P0 := by rfl) (e2 : X.w = w0 := by rfl) (e3 : X.K = K0 := by rfl) (e4 : X.mg = mg0 := by rfl) (e5 : X.base = base0 := by rfl) :
    DE Z X (.Call (.Name "_law_try" p) [.Lambda params body scope lpos] [] pos) (dTry K0 l vs b) := by
  subst e1; subst e2; subst e3; subst e4; subst e5
  obtain ⟨g, pg, bg, sg, kV, doc, pm, cdv, ct, oc, an, od, osl, hm, hk, lk, hcg, hb, Sg, hva, hG⟩ := D.ex
  refine ⟨pe_imp (pe_lamcall (T := T) (TT := TTry X.K l)
      (t := fun E σ H Q => ∃ (F0 : Wo) (H0 : Hp) (w' : WD) (lk : Lk F0 H0 (fun cls d _ H => E cls d H) w'), tD ⟨F0, H0, _, w', lk⟩ (b w') σ H Q)
      hg hm hk lk hcg hb Sg (Ng := ["_law_ask", "e"]) (a := "_law_ask") rfl hva (hG X _ rfl rfl rfl rfl rfl) TB hcode hmT huT hr L hdef hbind
      (fun A outer s H E f c' hr' => ⟨fun pins s' σ H' Q I ⟨F0, H0, w', lk, h⟩ => (hbody F0 H0 _ w' lk A outer s H E f c' hr' (takes_of rfl rfl rfl rfl)).pe.run pins s' σ H' Q I h⟩)) fun σ H Q h => ?_⟩
  obtain ⟨Lo, F, ρ, Q', w, r, q, kk⟩ := h
  obtain ⟨Fa, wa, xa, ra⟩ := RSt.frzD (vs := vs) w r
  refine ⟨wa.tabs hT, fun H1 eN T1 => ?_⟩
  have s1 := wa.grown hT eN T1
  generalize hF1 : Fa.told _ H1 = F1 at s1
  have w1 := s1.wd
  have r1 := s1.st _ _ ra
  have x1 := xa.trans s1.ext
  have lz : (2 : Nat) ≤ sizeLine := by rw [sizeLine_eq]; decide
  refine ⟨F1, H1, fun C ns ds _ => TryAns X.K l (fun d => Q' d (frzD vs ρ)) C ns ds, ?_, fun _ => none, F1, valsD (frzD vs ρ), _, w1.again, r1.vals, q, fun F2 H2 ρ2 d v w2 x2 r2 hr2 q2 => ⟨lz, fun p hp => ?_⟩⟩
  · intro L' F2 H2 ρ2 σ2 C dd fs ds w2 _ hf hs ⟨ek, wv, tc, hw, ha⟩
    have s2 := w1.call w2.noL
    have hdd : H2 dd = some (.xd fs) := by
      rcases s2.wd.fz dd _ hf with y | ⟨⟨_, y⟩, _⟩
      · exact y
      · cases y
    obtain ⟨v, hv, rv⟩ := lookF_val hs hw
    refine ⟨C, dd, fs, v, ek, rfl, rfl, hdd, tc.xf, ⟨tc.wd, hv⟩, tc.pk, ?_⟩
    cases ek with
    | one f =>
      obtain ⟨u, hu, q3⟩ := ha
      obtain ⟨uv, huv, ru⟩ := lookF_val hs hu
      refine ⟨uv, ⟨tc.fl, huv⟩, fun p hp => ?_⟩
      obtain ⟨s3, r3⟩ := Stp.tupN s2.wd hp (Reps.cons rv (Reps.cons ru Reps.nil))
      exact kk _ _ _ _ _ s3.wd (x1.trans (s2.ext.trans s3.ext)) (s3.st _ _ (s2.st _ _ r1)) r3 q3
    | two f g =>
      obtain ⟨u, u2, hu, hu2, q3⟩ := ha
      obtain ⟨uv, huv, ru⟩ := lookF_val hs hu
      obtain ⟨uv2, huv2, ru2⟩ := lookF_val hs hu2
      refine ⟨uv, uv2, ⟨tc.fl.1, huv⟩, ⟨tc.fl.2, huv2⟩, fun p1 hp1 p hp => ?_⟩
      obtain ⟨s3, r3⟩ := Stp.tupN s2.wd hp1 (Reps.cons ru (Reps.cons ru2 Reps.nil))
      obtain ⟨s4, r4⟩ := Stp.tupN s3.wd hp (Reps.cons (rv.mono s3.ext) (Reps.cons r3 Reps.nil))
      exact kk _ _ _ _ _ s4.wd (x1.trans (s2.ext.trans (s3.ext.trans s4.ext))) (s4.st _ _ (s3.st _ _ (s2.st _ _ r1))) r4 q3
    | zero =>
      intro p hp
      obtain ⟨s3, r3⟩ := Stp.tupN s2.wd hp (Reps.cons rv (Reps.cons (rep_non.mpr rfl) Reps.nil))
      exact kk _ _ _ _ _ s3.wd (x1.trans (s2.ext.trans s3.ext)) (s3.st _ _ (s2.st _ _ r1)) r3 ha
  · have s2 := w1.call w2
    obtain ⟨s3, r3⟩ := Stp.tupN s2.wd hp (Reps.cons (rep_str.mpr rfl) (Reps.cons hr2 Reps.nil))
    exact kk _ _ _ _ _ s3.wd (x1.trans (s2.ext.trans s3.ext)) (s3.st _ _ (s2.st _ _ r1)) r3 q2
theorem de_try {P0 : Program} {w0 : World} {K0 : PySem.W.Frag} {mg0 : Str → Option Value} {base0 : Heap} (vs : List Nat) (D : TryD P0 w0 K0 mg0 base0 l) (hr : Room (k + 2) X.A) (TB : TabB X.base X.mg c P) (hcode : X.env.code = .ref c) (hT : TbOk [(P, X.env.qual ++ "<lambda>")] Z.F)
    (hbody : ∀ (F0 : Wo) (H0 : Hp) (W : WX) (w' : WD) (lk : Lk F0 H0 W w') (A : Around) (outer : List Env) (s : Shared) (H : Hp) (E : XK) (f c' : Addr), Room k (A.deeper (lamEnv X scope s.heap.objs.size f c')) →
      Takes (lamCx X A outer s H E scope f c') W → DE ⟨F0, H0, W, w', lk⟩ (lamCx X A outer s H E scope f c') body (b w'))
    (hg : Gl X "_law_try" := by rfl) (L : LamS X.env.scope scope := by exact LamX.lamS_by (by decide +kernel)) (hdef : defaultsOf params X.env = ([], []) := by rfl)
    (hbind : ∀ (q : Str) (cl : List (Str × Addr)) (pm cv ctv : Value), bindArgs (PySem.W.kla_fn "<lambda>" q params body scope cl pm cv ctv) ⟨[], []⟩ = pure [] := by intro _ _ _ _ _; rfl)
    (e1 : X.prog = P0 := by rfl) (e2 : X.w = w0 := by rfl) (e3 : X.K = K0 := by rfl) (e4 : X.mg = mg0 := by rfl) (e5 : X.base = base0 := by rfl) :
    DE Z X (.Call (.Name "_law_try" p) [.Lambda params body scope lpos] [] pos) (dTry K0 l vs b) :=
  de_tryT vs D hr TB hcode hT List.mem_cons_self (fun q hq _ => by rw [List.mem_singleton.mp hq]) hbody hg L hdef hbind e1 e2 e3 e4 e5
end
end DL

namespace DL
open PySem L2 LamX EL

def spLawT (K : PySem.W.Frag) (P : Addr) : Sp := fun vs H Q _ => ∃ (a : Addr) (ns : List Int), vs = [.ref a] ∧ SqL K H a (ns.map V.int) ∧ ns.length ≤ 63 ∧ H P = some (.tbl #[]) ∧ ∀ H', Q (.bl true) H'
section
variable {P : Program} {w : World} {K : PySem.W.Frag} {mg : Str → Option Value} {base : Heap}
theorem dl_restT {T : List (Addr × Str)} {X : Cx} {body : List Stmt} {a : ASt} (h : ∀ (F : Wo) (H1 : Hp), TbOk T F → DSs (Zx.z0 F H1) X body a) : PSs X body (fun D σ H => ∃ F0 H0, TbOk T F0 ∧ tDS (Zx.z0 F0 H0) a D σ H) :=
  ⟨fun pins s σ H D I ⟨F0, H0, k, q⟩ => (h F0 H0 k).ps.run pins s σ H D I q⟩
theorem dlaw_okT {qq : Str} {x qual : Str} {st s0 : Stmt} {rest : List Stmt} {f c PL : Addr} {fd : FuncData} {N ps : List Str} {k : Nat} (Fn : Fun K x qual st f fd) (hcode : fd.code = .ref c) (S : FnScope N ps (defScope st)) (hps : ps.length = 1) (hN : 2 ≤ N.length) (hb : defBody st = s0 :: rest) {a : ASt}
    (h0 : ∀ (cdv : Value) (A : Around) (outer : List Env) (s : Shared) (H : Hp) (E : XK), Room k (A.deeper (PyProof.Rows.envOfC qual (defScope st) s.heap.objs.size f cdv)) →
      PS (cxOf CX0 P w K mg base N qual (defScope st) f cdv A outer s H E).nox s0 (tAsg (tCall (spBag K) [] E0 (tCons (tVar 0) tNil)) (gName 1)))
    (hbody : ∀ (Z : Zx) (A : Around) (outer : List Env) (s : Shared) (H : Hp) (E : XK), TbOk [(PL, qq)] Z.F → Room k (A.deeper (PyProof.Rows.envOfC qual (defScope st) s.heap.objs.size f (.ref c))) →
      DSs Z (cxOf CX0 P w K mg base N qual (defScope st) f (.ref c) A outer s H E).nox rest a)
    (hsp : ∀ p, a { nx := fun _ => False, rt := fun d _ => d = .bl true } (none :: some (Lv.val (.bag p)) :: List.replicate (N.length - 2) none)) : FnOk P w K mg base CX0 (k + 1) f fd ps (spLawT K PL) := by
  obtain ⟨oc, od, kV, doc, pm, an, cdv, ct, osl, rfl, lk, hcd⟩ := Fn.ex
  obtain rfl : cdv = .ref c := hcode
  refine fn_of lk hcd S (fun vs H Q E ⟨a, ns, e, _⟩ => by rw [e, hps]; rfl) fun A outer s H vs Q E hroom h => ?_
  obtain ⟨a, ns, rfl, hS, hl, hT, hq⟩ := h
  rw [hb]
  refine ⟨_, (pss_cons (h0 (.ref c) A outer s H E hroom) (dl_restT (T := [(PL, qq)]) fun F H1 k1 => hbody (Zx.z0 F H1) A outer s H E k1 hroom)).nox, ?_⟩
  refine ⟨.ref a, rfl, a, ns, rfl, hS, hl, fun H' p q s1 sm npq hq' hp' z0 z9 => ?_⟩
  have hT' : H' PL = some (.tbl #[]) := sm PL _ hT
  have nPp : PL ≠ p := fun e => by rw [e, hp'] at hT'; cases hT'
  have nPq : PL ≠ q := fun e => by rw [e, hq'] at hT'; cases hT'
  generalize hF : (⟨fun b => if b = q then some (.lst (ns.map V.int)) else none, fun b => if b = p then some (BagI q ns.length) else if b = PL then some (TabC qq) else none, fun _ => none⟩ : Wo) = F
  have fzq : ∀ b o, F.fz b = some o → b = q ∧ o = .lst (ns.map V.int) := fun b o e => by
    rw [← hF] at e
    have e : (if b = q then some (.lst (ns.map V.int)) else none) = some o := e
    split at e
    next c => cases e; exact ⟨c, rfl⟩
    next => cases e
  have cep : ∀ b f, F.ce b = some f → (b = p ∧ f = BagI q ns.length) ∨ (b = PL ∧ f = TabC qq) := fun b f e => by
    rw [← hF] at e
    have e : (if b = p then some (BagI q ns.length) else if b = PL then some (TabC qq) else none) = some f := e
    split at e
    next c => cases e; exact .inl ⟨c, rfl⟩
    next =>
      split at e
      next c => cases e; exact .inr ⟨c, rfl⟩
      next => cases e
  have cp : F.ce p = some (BagI q ns.length) := by rw [← hF]; exact if_pos rfl
  have cP : F.ce PL = some (TabC qq) := by
    rw [← hF]
    show (if PL = p then some (BagI q ns.length) else if PL = PL then some (TabC qq) else none) = _
    rw [if_neg nPp, if_pos rfl]
  have fq : F.fz q = some (.lst (ns.map V.int)) := by rw [← hF]; exact if_pos rfl
  have lk0 : ∀ b, F.lk b = none := fun b => by rw [← hF]
  have hbag : Rep F (.bag p) (.ref p) := rep_bag.mpr ⟨rfl, q, ns, fq, hl, cp⟩
  have tb : TbOk [(PL, qq)] F := ⟨fun t ht => by rw [List.mem_singleton.mp ht]; exact cP, fun b f e => by
    rcases cep b f e with ⟨rfl, rfl⟩ | ⟨rfl, rfl⟩
    · refine .inr fun g o h => ?_
      obtain ⟨i, c, s, rfl, _⟩ := h
      exact ⟨fun _ y => (by cases y), fun ⟨_, y⟩ => (by cases y)⟩
    · exact .inl ⟨qq, List.mem_cons_self, rfl⟩⟩
  refine ⟨F, H', tb, fun _ => none, F, _, _, Wd.start F H' (fun b o e => ?_) (fun b f e => ?_) (fun b o e => ?_) (fun b ob e => by rw [lk0] at e; cases e) (fun b o e => ?_), ?_, hsp p, ⟨?_, ?_, ?_, ?_, fun _ _ _ _ _ _ _ _ z => z.elim⟩⟩
  · obtain ⟨rfl, rfl⟩ := fzq b o e; exact .inl hq'
  · rcases cep b f e with ⟨rfl, rfl⟩ | ⟨rfl, rfl⟩
    · exact ⟨_, hp', 0, 0, s1, rfl, by omega, by omega, by omega, z0, z9⟩
    · exact ⟨_, hT', #[], rfl, True.intro, fun pos cv hc => by
        have z : codeAmong pos [] = some cv := hc
        simp [codeAmong] at z⟩
  · obtain ⟨rfl, rfl⟩ := fzq b o e
    cases z : F.ce b with
    | none => rfl
    | some f =>
      rcases cep b f z with ⟨y, _⟩ | ⟨y, _⟩
      · exact (npq y.symm).elim
      · exact (nPq y.symm).elim
  · obtain ⟨rfl, rfl⟩ := fzq b o e; intro _ y; cases y
  · refine ⟨fun j d e => ?_, fun j d e => ?_, fun j l d e b hjl h1 h2 => ?_, ?_⟩
    · match j, e with
      | 0, e => simp at e
      | 1, e =>
        simp only [List.getElem?_cons_succ, List.getElem?_cons_zero, Option.some.injEq, Lv.val.injEq] at e
        subst e
        refine ⟨.ref p, ?_, hbag⟩
        unfold L2.start
        simp only [List.map_cons, List.map_nil, List.cons_append, List.nil_append, List.length_cons, List.length_nil, List.set_cons_succ, List.getElem?_cons_succ]
        obtain ⟨m, hm⟩ : ∃ m, N.length - (0 + 1) = m + 1 := ⟨N.length - 2, by omega⟩
        rw [hm, List.replicate_succ, List.set_cons_zero]
        rfl
      | j + 2, e =>
        simp only [List.getElem?_cons_succ, List.getElem?_replicate] at e
        split at e <;> cases e
    · match j, e with
      | 0, e => simp at e
      | 1, e => simp at e
      | j + 2, e =>
        simp only [List.getElem?_cons_succ, List.getElem?_replicate] at e
        split at e <;> cases e
    · match j, h1 with
      | 0, h1 => simp at h1
      | 1, h1 => simp at h1
      | j + 2, h1 =>
        simp only [List.getElem?_cons_succ, List.getElem?_replicate] at h1
        split at h1 <;> cases h1
    · unfold L2.start
      simp only [List.length_cons, List.length_replicate, List.length_append, List.length_map, List.length_nil, List.length_set]
      omega
  · exact fun _ _ _ _ _ _ _ q' => False.elim q'
  · exact fun _ _ _ _ _ _ _ q' => False.elim q'
  · exact fun _ _ _ _ _ _ _ q' => False.elim q'
  · intro F2 H2 σ2 ρ2 d v _ _ _ hd e
    subst e
    rw [rep_bl.mp hd]
    exact hq H2
/-- the end of the row -/
theorem lawAt_mk {l : PySem.W.OpenLaw} {fa c PL : Addr} {fd : FuncData} {k : Nat} {h : Heap} {o : Obj} {e : Value} {dd : Option Addr} {vs : List Value} {sl : Array (Option Value)} (KX : K.In h) (own : OwnTab K fa h) (lf : K.lookup fa = some o) (ho : o.data = .func fd) (hc : fd.code = .ref c)
    (lc : K.lookup c = some ⟨e, dd, .fields vs.toArray, sl⟩) (hv : vs[11]? = some (.ref PL)) (hn : K.lookup PL = none) (hd : PySem.W.codeHdIn K c PL = true) (hb : ∀ (s : Shared) (u : Value), BindsTo s fd ⟨[u], []⟩ [("_law_script", u)])
    (hF : ∀ base : Heap, K.In base → base.Ns mainGlobals mg → TabB base mg c PL → FnOk l.prog w K mg base CX0 k fa fd ["_law_script"] (spLawT K PL)) : LawAtS l w K CX0 k 63 "_law_script" mg fa h := by
  have at_ : ∀ {p : Addr × Addr}, p ∈ [(c, PL)] → p = (c, PL) := fun h => List.mem_singleton.mp h
  refine ⟨fd, [(c, PL)], spLawT K PL, fun p hp => ?_, fun p hp => ?_, fun p hp => ?_, hb, fun H a ns hl _ hT hS => ⟨a, ns, rfl, hS, hl, hT (c, PL) List.mem_cons_self, fun _ => rfl⟩, fun base hK hG hTB => hF base hK hG (hTB (c, PL) List.mem_cons_self)⟩
  · rw [at_ hp]; exact own c PL o fd e dd vs.toArray sl lf ho hc lc (by rw [List.getElem?_toArray]; exact hv)
  · rw [at_ hp]; exact hn
  · rw [at_ hp]; exact PySem.W.codeHd_of_K KX hd
end

section
variable {K : PySem.W.Frag} {C D : Addr} {b d : Bool} {cls c : Value} {r cs : List Value} {k k' : EK} {l : List (List Value × EK)}
theorem exm_of (h1 : PySem.W.subIn K (.ref D) (.type "BaseException") = some true) (h2 : PySem.W.isClsIn K D = true) (h3 : PySem.W.typeIn K (.ref D) = some (.type "type")) (h4 : PySem.W.subIn K (.ref C) (.ref D) = some b) : PySem.W.exmOne K (.ref C) (.ref D) = some b := by
  have e1 : (PySem.W.subIn K (.ref D) (.type "BaseException") == some true) = true := by rw [h1]; rfl
  unfold PySem.W.exmOne
  rw [if_pos e1]
  have e2 : (PySem.W.clsIn K D).isSome = true := h2
  unfold PySem.W.kitCls
  simp only [e2, h3, h4]
  rfl
theorem exm_nil : PySem.W.exmAny K cls [] = some false := rfl
theorem exm_cons (h : PySem.W.exmOne K cls c = some b) (t : PySem.W.exmAny K cls r = some d) : PySem.W.exmAny K cls (c :: r) = some (b || d) := by
  unfold PySem.W.exmAny
  rw [h, t]
theorem pick_yes (h : PySem.W.exmAny K cls cs = some true) : pick K cls ((cs, k) :: l) k := ⟨true, h, fun _ => rfl, (fun e => nomatch e)⟩
theorem pick_no (h : PySem.W.exmAny K cls cs = some false) (p : pick K cls l k') : pick K cls ((cs, k) :: l) k' := ⟨false, h, (fun e => nomatch e), fun _ => p⟩
end
end DL

namespace DL
open PySem L2
section
variable {Z : Zx} {X : Cx} {pos p p1 : Pos} {e : Expr} {es : List Expr} {t : AA} {x nm : Str}
end
end DL

namespace DL
open PySem L2 EL

mutual
def okD : DV → Bool
  | .non => true
  | .bl _ => true
  | .int _ => true
  | .str x => PyData.strOk x
  | .tup xs => okDs xs
  | .lst xs => okDs xs
  | _ => false
def okDs : List DV → Bool
  | [] => true
  | x :: xs => okD x && okDs xs
end
mutual
def depD : DV → Nat
  | .tup xs => depDs xs + 1
  | .lst xs => depDs xs + 1
  | _ => 0
def depDs : List DV → Nat
  | [] => 0
  | x :: xs => max (depD x) (depDs xs)
end
mutual
theorem okD_toP : ∀ {d : DV}, okD d = true → ∃ p, toP d = some p ∧ p.canLay0 = true ∧ p.depth = depD d
  | .non, _ => ⟨_, rfl, rfl, by simp [PyData.depth, depD]⟩
  | .bl _, _ => ⟨_, rfl, rfl, by simp [PyData.depth, depD]⟩
  | .int _, _ => ⟨_, rfl, rfl, by simp [PyData.depth, depD]⟩
  | .str x, h => ⟨_, rfl, by simpa [PyData.canLay0, okD] using h, by simp [PyData.depth, depD]⟩
  | .tup xs, h => by
    obtain ⟨ps, e, c, d⟩ := okDs_toP (d := xs) (by simpa [okD] using h)
    exact ⟨.tuple ps, by simp [toP, e], by simpa [PyData.canLay0] using c, by simp [PyData.depth, depD, d]⟩
  | .lst xs, h => by
    obtain ⟨ps, e, c, d⟩ := okDs_toP (d := xs) (by simpa [okD] using h)
    exact ⟨.list ps, by simp [toP, e], by simpa [PyData.canLay0] using c, by simp [PyData.depth, depD, d]⟩
  | .dic _ _, h => by simp [okD] at h
  | .obj _ _ _, h => by simp [okD] at h
  | .bag _, h => by simp [okD] at h
  | .ty _, h => by simp [okD] at h
  | .cls _, h => by simp [okD] at h
  | .lsa _ _, h => by simp [okD] at h
  | .osa _ _ _ _, h => by simp [okD] at h
  | .exc _ _ _ _ _, h => by simp [okD] at h
theorem okDs_toP : ∀ {d : List DV}, okDs d = true → ∃ p, toPs d = some p ∧ PyData.canLayAll0 p = true ∧ PyData.depthAll p = depDs d
  | [], _ => ⟨[], rfl, rfl, by simp [PyData.depthAll, depDs]⟩
  | x :: xs, h => by
    have h' : okD x = true ∧ okDs xs = true := by simpa [okDs] using h
    obtain ⟨p, e1, c1, d1⟩ := okD_toP h'.1
    obtain ⟨ps, e2, c2, d2⟩ := okDs_toP h'.2
    exact ⟨p :: ps, by simp [toPs, e1, e2], by simp [PyData.canLayAll0, c1, c2], by simp [PyData.depthAll, depDs, d1, d2]⟩
end
mutual
theorem eqv_refl : ∀ {p : PyData}, p.canLay0 = true → PyData.eqv p p = true
  | .none, _ => by simp [PyData.eqv]
  | .bool _, _ => by simp [PyData.eqv]
  | .int _, _ => by simp [PyData.eqv]
  | .str _, _ => by simp [PyData.eqv]
  | .list xs, h => by simp only [PyData.eqv]; exact eqvAll_refl (by simpa [PyData.canLay0] using h)
  | .tuple xs, h => by simp only [PyData.eqv]; exact eqvAll_refl (by simpa [PyData.canLay0] using h)
  | .dict _, h => by simp [PyData.canLay0] at h
theorem eqvAll_refl : ∀ {p : List PyData}, PyData.canLayAll0 p = true → PyData.eqvAll p p = true
  | [], _ => by simp [PyData.eqvAll]
  | x :: xs, h => by
    have h' : x.canLay0 = true ∧ PyData.canLayAll0 xs = true := by simpa [PyData.canLayAll0] using h
    simp [PyData.eqvAll, eqv_refl h'.1, eqvAll_refl h'.2]
end
/-- Python's == of plain data -/
def deqB (x y : DV) : Bool := match toP x, toP y with
  | some p, some q => PyData.eqv p q
  | _, _ => false
theorem deqB_self {x : DV} (h : okD x = true) : deqB x x = true := by
  obtain ⟨p, e, c, _⟩ := okD_toP h
  unfold deqB; rw [e]; exact eqv_refl c
theorem eqD_go {x y : DV} {Q : Bool → Prop} (hx : okD x = true) (hy : okD y = true) (dx : depD x ≤ 64) (dy : depD y ≤ 64) (n : scalD x = none) (h : Q (deqB x y)) : fEqB x y Q := by
  obtain ⟨p, e1, c1, d1⟩ := okD_toP hx
  obtain ⟨q, e2, c2, d2⟩ := okD_toP hy
  unfold fEqB
  rw [n]
  refine ⟨p, q, e1, e2, ?_, ?_, ?_⟩
  · unfold SeqAt.shaped; rw [c1, d1]; simpa using dx
  · unfold SeqAt.shaped; rw [c2, d2]; simpa using dy
  · unfold deqB at h; rw [e1, e2] at h; exact h
theorem eqSelf_go {x : DV} {Q : Bool → Prop} (hx : okD x = true) (dx : depD x ≤ 64) (n : scalD x = none) (h : Q true) : fEqB x x Q :=
  eqD_go hx hx dx dx n (by rw [deqB_self hx]; exact h)
theorem okDs_map {α : Type} {f : α → DV} : ∀ {l : List α}, (∀ x ∈ l, okD (f x) = true) → okDs (l.map f) = true
  | [], _ => rfl
  | x :: l, h => by simp [okDs, h x List.mem_cons_self, okDs_map fun y hy => h y (List.mem_cons_of_mem _ hy)]
theorem depDs_map {α : Type} {f : α → DV} {n : Nat} : ∀ {l : List α}, (∀ x ∈ l, depD (f x) ≤ n) → depDs (l.map f) ≤ n
  | [], _ => Nat.zero_le _
  | x :: l, h => Nat.max_le.mpr ⟨h x List.mem_cons_self, depDs_map fun y hy => h y (List.mem_cons_of_mem _ hy)⟩
theorem eqLnil_go {xs : List DV} {Q : Bool → Prop} (hx : okDs xs = true) (dx : depDs xs ≤ 60) (h : Q xs.isEmpty) : fEqB (.lst xs) (.lst []) Q := by
  refine eqD_go (by simpa [okD] using hx) rfl (by simp only [depD]; omega) (by decide) rfl ?_
  obtain ⟨ps, e, _⟩ := okDs_toP hx
  have : deqB (.lst xs) (.lst []) = xs.isEmpty := by
    cases xs with
    | nil => rfl
    | cons x xs =>
      simp only [toPs] at e
      split at e
      next p q e1 e2 => simp [deqB, toP, toPs, e1, e2, PyData.eqv, PyData.eqvAll]
      next => cases e
  rw [this]; exact h
section
variable {K : PySem.W.Frag} {l : List (List Value × EK)} {C : Addr} {f g : Str} {ns : List Str} {ds : List DV} {w v u : DV} {Q : DV → Prop}
theorem ans_one (T : Trc K l C (.one f)) (h1 : lookF ns ds "word" = some w) (h2 : lookF ns ds f = some v) (h : Q (.tup [w, v])) : TryAns K l Q C ns ds := ⟨_, w, T, h1, v, h2, h⟩
end
end DL

namespace DL
open PySem L2

/-- a world with what an outer one knows besides of code objects -/
def Wo.keep (F F' : Wo) : Wo := ⟨fun a => match F.fz a with
  | some o => some o
  | none => match F'.fz a with
    | some (.ext φ) => some (.ext φ)
    | _ => none, F.ce, F.lk⟩
section
variable {Z : Zx} {X : Cx} {e : Expr} {a : AE} {t : AT}
end
end DL

namespace DL
open PySem L2

theorem str_ext {a b : Str} (h : a.cps.toList = b.cps.toList) : a = b := by
  cases a; cases b; exact congrArg Str.mk (Array.toList_inj.mp h)
theorem sp_is : (" " : Str) = ⟨#[32]⟩ := by decide +kernel
/-- a sequence's text -/
def textS (s : List Str) : Str := Txt.join " " s
theorem textS_len (s : List Str) : (textS s).length ≤ (s.map Str.length).sum + s.length := by
  have := join_len " " s
  unfold textS
  have e : (" " : Str).length = 1 := by decide +kernel
  rw [e] at this; omega
theorem sum_le {s : List Str} {n : Nat} (h : ∀ x ∈ s, x.length ≤ n) : (s.map Str.length).sum ≤ s.length * n := by
  induction s with
  | nil => simp
  | cons x r ih =>
    have h1 := h x List.mem_cons_self
    have h2 := ih fun y hy => h y (List.mem_cons_of_mem _ hy)
    simp only [List.map_cons, List.sum_cons, List.length_cons, Nat.add_mul, Nat.one_mul]
    omega
def spSeqText : DSp := fun ds Q _ => ∃ s : List Str, ds = [encS s] ∧ (s.map Str.length).sum + s.length ≤ 1000000 ∧ Q (.str (textS s))
end DL

namespace DL
open PySem L2

def digT : Str := "0123456789"
theorem len_list (z : Str) : z.cps.toList.length = z.length := by rw [Array.length_toList]; rfl
/-- str(p) -/
def numS (p : Nat) : Str := Str.ofString (toString ((p : Nat) : Int))
theorem numS_list (p : Nat) : (numS p).cps.toList = TL.numL p := TL.tl_num p
theorem numS_len (p : Nat) : (numS p).length = (TL.numL p).length := by rw [← len_list, numS_list]
theorem numS_free (p : Nat) {c : Nat} (h : c < 48 ∨ 57 < c) : c ∉ (numS p).cps.toList := by rw [numS_list]; exact TL.numL_free h
section
variable {z : Str} (e1 : decide ((1 : Int) ≤ z.length) = true) (e2 : decide ((z.length : Int) ≤ 4) = true) (e3 : z.cps.toList.all (fun c => strIn ⟨#[c]⟩ digT) = true)
include e1 e2 e3
end
def stepT : Sp1 → List Str
  | .ex p => ["expand", numS p]
  | .co p x => ["contract", numS p, x]
theorem stepT_len {t : Sp1} (h : match t with | .ex p => p < 10000 | .co p x => p < 10000 ∧ nameB x = true) : (textS (stepT t)).length ≤ 30 := by
  have tl := textS_len (stepT t)
  have e1 : ("expand" : Str).length = 6 := by decide +kernel
  have e2 : ("contract" : Str).length = 8 := by decide +kernel
  cases t with
  | ex p =>
    have h : p < 10000 := h
    have hl := TL.numL_len (n := p) (k := 4) (by decide) (by omega)
    simp only [stepT, List.map_cons, List.map_nil, List.sum_cons, List.sum_nil, List.length_cons, List.length_nil, e1, numS_len] at tl
    simp only [stepT]
    omega
  | co p x =>
    have h1 : p < 10000 := h.1
    have hl := TL.numL_len (n := p) (k := 4) (by decide) (by omega)
    have hx := nameB_len h.2
    simp only [stepT, List.map_cons, List.map_nil, List.sum_cons, List.sum_nil, List.length_cons, List.length_nil, e2, numS_len] at tl
    simp only [stepT]
    omega
def SmallP : Sp1 → Prop
  | .ex p => p < 10000
  | .co p x => p < 10000 ∧ x.length ≤ 1000
def spStepText (CS : Addr) : DSp := fun ds Q E => (∃ t : Sp1, ds = [encP t] ∧ SmallP t ∧ Q (.str (textS (stepT t)))) ∨
  ∃ xs : List DV, ds = [.tup xs] ∧ (xs = [] ∨ ∃ z ys, xs = .str z :: ys) ∧ stepB xs = false ∧ E CS ["word"] [.str "invalidstep"]
end DL

namespace DL
namespace Pt
variable {α : Type} [DecidableEq α]
/-- what the i-th index is -/
def at' (p c : List α) (i : Nat) : Option α := if i < p.length then p[i]? else c[(i - p.length) % c.length]?
def Same (p c q d : List α) : Prop := ∀ i, at' p c i = at' q d i
/-- s is the size of a whole part of c -/
def partB (c : List α) (s : Nat) : Bool := decide (c.length % s = 0) && decide ((List.replicate (c.length / s) (c.take s)).flatten = c)
def rootL (c : List α) : List α := match (List.range' 1 c.length).find? (partB c) with
  | some s => c.take s
  | none => c
def turn (c : List α) : List α := c.getLast?.toList ++ c.dropLast
def stepB (p c : List α) : Bool := decide (c ≠ []) && (decide (p ≠ []) && decide (p.getLast? = c.getLast?))
def short : Nat → List α → List α → List α × List α
  | 0, p, c => (p, c)
  | n + 1, p, c => if stepB p c = true then short n p.dropLast (turn c) else (p, c)
def nf (p c : List α) : List α × List α := short p.length p (rootL c)
theorem Same.trans {p c q d r e : List α} (h : Same p c q d) (k : Same q d r e) : Same p c r e := fun i => (h i).trans (k i)
end Pt
end DL

namespace DL
open PySem L2
open Pt
end DL

namespace DL
open PySem L2
open Pt
end DL

namespace DL
open PySem L2
open Pt
end DL

namespace DL
open PySem L2 PySem.Spec PyProof.Rows
section
variable {M : Model} {A : Around} {E : Value → Shared → Prop} {s : Shared} {env : Env}
end
/-- the pairs of enumerate -/
def enumD (k : Int) : List DV → List DV
  | [] => []
  | d :: r => .tup [.int k, d] :: enumD (k + 1) r
theorem enumD_len : ∀ (k : Int) (ds : List DV), (enumD k ds).length = ds.length
  | _, [] => rfl
  | k, d :: r => by simp [enumD, enumD_len (k + 1) r]
theorem enumD_get : ∀ (k : Int) (ds : List DV) (i : Nat) (d : DV), ds[i]? = some d → (enumD k ds)[i]? = some (.tup [.int (k + (i : Nat)), d])
  | k, [], i, d, h => nomatch h
  | k, x :: r, 0, d, h => by
    have : x = d := Option.some.inj h
    subst this
    show some _ = some _
    rw [show k + ((0 : Nat) : Int) = k by omega]
  | k, x :: r, i + 1, d, h => by
    have := enumD_get (k + 1) r i d h
    show (enumD (k + 1) r)[i]? = _
    rw [this, show k + 1 + (i : Int) = k + ((i + 1 : Nat) : Int) by omega]
section
variable {Z : Zx} {X : Cx} {pos p tpos kp : Pos} {e e2 : Expr} {a b : AE} {elts : List Expr} {kk : Nat}
end
end DL

namespace DL
open PySem L2
theorem seqBad_mem {ns s : List Str} (h : seqBad ns s = none) : ∀ x ∈ s, x ∈ ns := by
  have key : ∀ (s : List Str) (i : Nat), badAt ns s i = none → ∀ x ∈ s, x ∈ ns := by
    intro s
    induction s with
    | nil => intro _ _ x hx; exact nomatch hx
    | cons y s ih =>
      intro i h x hx
      unfold badAt at h
      split at h
      · rename_i hy
        rcases List.mem_cons.mp hx with rfl | hx
        · exact hy
        · exact ih _ h x hx
      · exact nomatch h
  unfold seqBad at h
  split at h
  · exact nomatch h
  · exact key s 0 (by simpa using h)
end DL

namespace DL
open PySem L2 LamX EL

section
variable {P : Program} {w : World} {K : PySem.W.Frag} {mg : Str → Option Value} {base : Heap}
end
section
variable {Z : Zx} {X : Cx} {pos p : Pos} {x : Str} {e : Expr} {es : List Expr} {t : AA} {k n : Nat} {sp : DSp} {T : List (Addr × Str)}
end
section
variable {P : Program} {w : World} {K : PySem.W.Frag} {mg : Str → Option Value} {base : Heap}
end
end DL
namespace LamX
open PySem PySem.Spec PyProof.Rows L2
end LamX
namespace DL
open PySem L2
end DL

namespace DL
open PySem L2 LamX EL
def rLtD (K : PySem.W.Frag) : R2 := fun x y H Q => ∃ d e, Dp K H x d ∧ Dp K H y e ∧ PySem.W.alike d e = true ∧ d ≠ .none ∧ d.depth ≤ 60 ∧ Q (.bl (PySem.W.dataLt d e)) H
theorem op_ltD {X : Cx} (hu : X.A.units + 100 < cLine) : OpR X (compareOp .Lt) (rLtD X.K) := by
  intro pins s σ H x y v u Q I rx ry h
  obtain ⟨d, e, hd, he, al, nn, dp, q⟩ := h
  obtain ⟨as, r1⟩ := Dp.reads I d x v hd rx
  obtain ⟨bs, r2⟩ := Dp.reads I e y u he ry
  have hm : min d.depth e.depth ≤ d.depth := Nat.min_le_left _ _
  have z : wpAny (model X.prog X.w) X.A (compareOp .Lt v u) (EP X pins σ Q) X.xe s := PySem.W.rcLt_alike d e X.A s v u as bs r1 r2 al nn (by omega) X.prog X.w X.xe (EP X pins σ Q) ⟨.bl _, H, I, rfl, q⟩
  exact z
def fLtA (x y : DV) (Q : DV → Prop) : Prop := match x, y with
  | .int i, .int j => Q (.bl (decide (i < j)))
  | .str i, .str j => Q (.bl (decide (i.cps.toList < j.cps.toList)))
  | .tup xs, .tup ys => ∃ d e, toP (.tup xs) = some d ∧ toP (.tup ys) = some e ∧ PySem.W.alike d e = true ∧ d ≠ .none ∧ d.depth ≤ 60 ∧ Q (.bl (PySem.W.dataLt d e))
  | _, _ => False
theorem oo_ltA {X : Cx} (hu : X.A.units + 100 < cLine) : OpR X (compareOp .Lt) (fun x y H Q => ((rI0 fun i j => .bl (decide (i < j))) x y H Q ∨ (∃ i j, x = .str i ∧ y = .str j ∧ Q (.bl (decide (i.cps.toList < j.cps.toList))) H)) ∨ rLtD X.K x y H Q) := OpR.or oo_lt (op_ltD hu)
theorem od_ltA {K : PySem.W.Frag} : OpD (fun x y H Q => ((rI0 fun i j => .bl (decide (i < j))) x y H Q ∨ (∃ i j, x = .str i ∧ y = .str j ∧ Q (.bl (decide (i.cps.toList < j.cps.toList))) H)) ∨ rLtD K x y H Q) fLtA := by
  intro B F H x y dx dy Q Q' w hx hy h k
  cases dx <;> first | exact False.elim h | (cases dy <;> first | exact False.elim h | skip)
  · rw [rep_int.mp hx, rep_int.mp hy]; exact .inl (.inl ⟨_, _, rfl, rfl, k F H _ _ (Stp.refl w) (rep_bl.mpr rfl) h⟩)
  · rw [rep_str.mp hx, rep_str.mp hy]; exact .inl (.inr ⟨_, _, rfl, rfl, k F H _ _ (Stp.refl w) (rep_bl.mpr rfl) h⟩)
  · obtain ⟨d, e, ed, ee, al, nn, dp, q⟩ := h
    exact .inr ⟨d, e, rep_dp w hx ed, rep_dp w hy ee, al, nn, dp, k F H _ _ (Stp.refl w) (rep_bl.mpr rfl) q⟩
section
variable {Z : Zx} {X : Cx} {pos : Pos} {o e : Expr} {es : List Expr} {a : AE} {t : AA} {name : Str} {apos cpos : Pos} {id : String} {r : V → List V → Hp → VK → Prop} {f : DV → List DV → (DV → Prop) → Prop}
end
end DL

namespace DL
open PySem L2
open Pt
end DL

namespace DL
open PySem L2
open Pt
end DL

namespace DL
open PySem L2 LamX EL
section
variable {Z : Zx} {X : Cx} {pos p1 : Pos} {e : Expr} {a : AE} {x : Str}
end
end DL
namespace DL
end DL

namespace DL
open PySem L2
open Pt
end DL

namespace DL
open PySem L2
open Pt
section
variable {C CI CP : Addr} {R : Rules} {s : List Str} {q1 q2 : Nat} {p1 c1 p2 c2 : List Nat} {Q : DV → Prop} {E : ED}
end
end DL

namespace DL
open PySem L2
section
variable {X : Cx} {pins : List (Addr × Obj)} {σ : St} {H : Hp} {s : Shared} {j : Nat} {x : Str}
theorem inv_ghost {v : V} (I : Inv X pins σ H s) (hj : X.N[j]? = some x) (hv : ¬ Vis X.env.scope x) : Inv X pins (σ.set j (some v)) H s := by
  refine ⟨I.ok, I.os, I.bare, I.base, ?_, I.cell, I.free, I.freeC, I.pin, I.hok, by rw [List.length_set]; exact I.len⟩
  obtain ⟨m, hn, hl⟩ := I.loc
  refine ⟨m, hn, fun i y u hi hs vs => ?_⟩
  by_cases c : j = i
  · subst c; rw [hj] at hi; cases hi; exact absurd vs hv
  · rw [List.getElem?_set_ne c] at hs; exact hl i y u hi hs vs
/-- a slot of a name that the scope does not know may be set -/
theorem ps_ghost {st : Stmt} {t : TS} (h : PS X st t) (hj : X.N[j]? = some x) (hv : ¬ Vis X.env.scope x) : PS X st (fun D σ H => t { D with nx := fun σ' H' => ∃ v, D.nx (σ'.set j (some v)) H' } σ H) := by
  refine ⟨fun pins s σ H D I q => PySem.wpAny_mono (h.run pins s σ H _ I q) (fun f s1 hsp => ?_) (fun e s1 he => he)⟩
  cases f with
  | next => obtain ⟨σ', H', J, v, q'⟩ := hsp; exact ⟨_, H', inv_ghost J hj hv, q'⟩
  | brk => exact hsp
  | cont => exact hsp
  | ret u => exact hsp
end
section
variable {Z : Zx} {X : Cx} {pos p1 p' ap apos cpos : Pos} {e : Expr} {es : List Expr} {a b : AE} {t : AA} {C : Addr} {f x g : Str} {i j : Nat}
theorem notVis {sc : Scope} {g : Str} (h : sc.names.lookup g = none) : ¬ Vis sc g := by
  rintro (k | k | k) <;> (have k : sc.names.lookup g = _ := k; rw [h] at k; cases k)
theorem rep_bare {F : Wo} {p : Addr} : Rep F (.cls p) (.ref p) := rep_cls.mpr rfl
/-- self.f = [..] : the list is known by slot j -/
def dSetL (i j : Nat) (C : Addr) (f : Str) (t : AA) : ASt := fun K ρ => t ρ fun ds ρ1 => ds.length ≤ sizeLine ∧ i ≠ j ∧ j < ρ1.length ∧ ∃ b ns vs, ρ1[i]? = some (some (Lv.own (.osa b C ns vs))) ∧ ns.length < 1000 ∧
  ∀ p, (∀ (k : Nat) (q : Addr) (xs : List DV), ρ1[k]? = some (some (Lv.own (.lsa q xs))) → q ≠ p) → K.nx ((ρ1.set i (some (Lv.own (.osa b C (putN f ns) (putX f (.cls p) ns vs))))).set j (some (Lv.own (.lsa p ds))))
theorem ds_setL (i j : Nat) (c : Cls X.K C) (hn : NoAttr X.K C f) (ha : DA Z X es t) (hj : X.N[j]? = some g) (hg : ¬ Vis X.env.scope g) (hN : X.N[i]? = some x := by rfl) (hv : Vis X.env.scope x := by first | exact Or.inl rfl | exact Or.inr (Or.inl rfl) | exact Or.inr (Or.inr rfl)) (hd : (x == ("__debug__" : Str)) = false := by decide)
    (hcd : (x == ("__classdict__" : Str)) = false := by decide) (hs : swapsWith (.List es ap) (some (.Attribute (.Name x p1) f p')) pos.line X.env = pure false := by rfl) : DS Z X (.Assign [.Attribute (.Name x p1) f p'] (.List es ap) pos) (dSetL i j C f t) := by
  refine ⟨ps_imp (ps_ghost (ps_fld (pe_var hN hv hd hcd) (pe_lst ha.pa) hs) hj hg) fun D σ H h => ?_⟩
  obtain ⟨B, F, ρ, K, w, r, q, k⟩ := h
  refine ⟨B, F, ρ, _, w, r, q, fun F1 H1 ρ1 ds vs w1 x1 r1 hrs ⟨ql, nij, lj, bb, ns, us, e2, hl, q2⟩ => ⟨by rw [← hrs.length]; exact ql, fun p hp => ?_⟩⟩
  have s1 := w1.loose (o := .lst vs) hp
  obtain ⟨lo1, dj1⟩ := own_new (o := .lst vs) w1 r1 hp
  have r2 := s1.st _ _ r1
  obtain ⟨b', hv', ho, _⟩ := r2.own i _ e2
  obtain ⟨rfl, dx, fs, hb, rfl, hr⟩ := ho
  obtain ⟨n1, n2⟩ := putF_data (f := f) (rep_bare (F := F1) (p := p)) hr
  refine ⟨_, hv', b', C, dx, fs, rfl, hb, c, hn, by simpa using hl, .ref p, ?_⟩
  obtain ⟨w3, r3⟩ := r2.turn s1.wd (d' := .osa b' C (putN f (fs.map (·.1))) (putX f (.cls p) (fs.map (·.1)) us)) e2 hv' ⟨rfl, dx, _, upd_same, n1, n2⟩
  have npb : b' ≠ p := fun z => by
    have := dj1 i _ e2
    rw [z] at hv'
    exact this hv'
  refine k.nx F1 _ _ _ w3 x1 (r3.putOwn (d := .lsa p ds) (by rw [List.length_set]; exact lj) ⟨rfl, vs, by rw [upd_ne (Ne.symm npb), upd_same], hrs⟩ lo1.1 lo1.2.1 lo1.2.2.1 lo1.2.2.2 fun j' e' n he => ?_) (q2 p fun k' q' xs' e' z => by
    obtain ⟨b2, _, ho2, _⟩ := r1.own k' _ e'
    obtain ⟨eb, _, hh, _⟩ := ho2
    subst eb
    rw [z, hp] at hh
    cases hh)
  by_cases ci : j' = i
  · subst ci; rw [hv']; intro z; cases z; exact npb rfl
  · rw [List.getElem?_set_ne (Ne.symm ci)] at he
    exact dj1 j' e' he
/-- self.f[e] -/
def dIxF (i j : Nat) (C : Addr) (f : Str) (b : AE) : AE := fun ρ Q => ∃ bb ns vs p xs, ρ[i]? = some (some (Lv.own (.osa bb C ns vs))) ∧ lookF ns vs f = some (.cls p) ∧ ρ[j]? = some (some (Lv.own (.lsa p xs))) ∧
  b ρ fun y ρ1 => ρ1[j]? = some (some (Lv.own (.lsa p xs))) ∧ fIx (.lsa p xs) y fun z => Q z ρ1
theorem de_ixF (i j : Nat) (c : Cls X.K C) (hn : NoAttr X.K C f) (hu : X.A.units + 100 < cLine) (h2 : DE Z X e b) (hN : X.N[i]? = some x := by rfl) (hv : Vis X.env.scope x := by first | exact Or.inl rfl | exact Or.inr (Or.inl rfl) | exact Or.inr (Or.inr rfl)) (hs : PlainIx e := by intro _ _; rfl) (hd : (x == ("__debug__" : Str)) = false := by decide) (hcd : (x == ("__classdict__" : Str)) = false := by decide)
    (hb : attributeBase (.Name x p1) f X.env (eval (.Name x p1) X.env) = eval (.Name x p1) X.env := by rfl) : DE Z X (.Subscript (.Attribute (.Name x p1) f ap) e pos) (dIxF i j C f b) := by
  refine ⟨pe_imp (pe_ix (oo_ix hu) (pe_fld (pe_var hN hv hd hcd) hb) h2.pe hs) fun σ H Q h => ?_⟩
  obtain ⟨B, F, ρ, Q', w, r, ⟨bb, ns, vs, p, xs, e1, hl, e2, q⟩, k⟩ := h
  obtain ⟨b', hs1, ho, _⟩ := r.own i _ e1
  obtain ⟨rfl, dx, fs, hp, rfl, hr⟩ := ho
  obtain ⟨v, hv', rv⟩ := lookF_val hr hl
  obtain rfl : v = .ref p := rep_cls.mp rv
  refine ⟨.ref b', hs1, b', C, dx, fs, .ref p, rfl, hp, c, hn, hv', B, F, ρ, _, w, r, q, fun F1 H1 ρ1 dy y w1 x1 r1 hy ⟨e3, q1⟩ => ?_⟩
  obtain ⟨p2, hs', ho', _⟩ := r1.own j _ e3
  obtain rfl : p2 = p := ho'.1
  exact own_ix w1 ho' hy q1 fun d2 v2 hr2 q2 => k F1 H1 ρ1 d2 v2 w1 x1 r1 hr2 q2
/-- self.f.append(e) -/
def fAppL (d y : DV) (Q : DV → Prop) : Prop := match d with
  | .lsa p ds => ds.length < sizeLine ∧ Q (.lsa p (ds ++ [y]))
  | _ => False
theorem mu_appL : MuD rAppend fAppL := by
  intro B F H p y d dy Q Q' w ho hy h k
  cases d with
  | lsa a ds =>
    obtain ⟨rfl, vs, hp, hr⟩ := ho
    exact ⟨p, vs, y, rfl, rfl, hp, by rw [← hr.length]; exact h.1, k (.lsa p _) _ ⟨rfl, _, upd_same, hr.append (Reps.cons hy Reps.nil)⟩ h.2⟩
  | _ => exact False.elim h
def dMutF (i j : Nat) (C : Addr) (f : Str) (u : DV → DV → (DV → Prop) → Prop) (a : AE) : ASt := fun K ρ => ∃ bb ns vs p xs, ρ[i]? = some (some (Lv.own (.osa bb C ns vs))) ∧ lookF ns vs f = some (.cls p) ∧ ρ[j]? = some (some (Lv.own (.lsa p xs))) ∧
  a ρ fun y ρ1 => ∃ xs', ρ1[j]? = some (some (Lv.own (.lsa p xs'))) ∧ u (.lsa p xs') y fun d' => K.nx (ρ1.set j (some (Lv.own d')))
variable {name : Str} {id : String} {r : V → List V → Hp → VK → Prop} {u : DV → DV → (DV → Prop) → Prop}
theorem ds_mutF (i j : Nat) (c : Cls X.K C) (hn : NoAttr X.K C f) (slot : PySem.Slot "list" name id) (hty : typeOf (.builtin id) = pure (.type "method_descriptor")) (hm : MtR X id r) (mu : MuD r u) (ha : DE Z X e a)
    (hN : X.N[i]? = some x := by rfl) (hv : Vis X.env.scope x := by first | exact Or.inl rfl | exact Or.inr (Or.inl rfl) | exact Or.inr (Or.inr rfl)) (hd : (x == ("__debug__" : Str)) = false := by decide) (hcd : (x == ("__classdict__" : Str)) = false := by decide)
    (hb : attributeBase (.Name x p1) f X.env (eval (.Name x p1) X.env) = eval (.Name x p1) X.env := by rfl)
    (hbase : attributeBase (.Attribute (.Name x p1) f ap) name X.env (eval (.Attribute (.Name x p1) f ap) X.env) = eval (.Attribute (.Name x p1) f ap) X.env := by rfl)
    (hfew : ((backTo cpos (starEach (e :: []) X.env)).all (fun x => !x.1) && (backToKw cpos (keywordEach [] X.env)).all (fun x => x.1.isSome)
      && decide ((e :: []).length + ([] : List Keyword).length + (if ([] : List Keyword).isEmpty then 0 else 1) < 30)) = true := by rfl)
    (hline : (apos.endLine == cpos.line) = true := by rfl) (hs : starEach (e :: []) X.env = (false, eval e X.env) :: starEach [] X.env := by rfl) (hplain : (backTo cpos (starEach [] X.env)).any (·.1) = false := by rfl)
    (hsw : swapsWith (.Call (.Attribute (.Attribute (.Name x p1) f ap) name apos) [e] [] cpos) none pos.line X.env = pure false := by rfl) :
    DS Z X (.Expr (.Call (.Attribute (.Attribute (.Name x p1) f ap) name apos) [e] [] cpos) pos) (dMutF i j C f u a) := by
  refine ⟨ps_imp (ps_expr (pe_bm PySem.F.plainAttrs_list slot hty hm (pe_fld (pe_var hN hv hd hcd) hb) (da_cons ha da_nil hs).pa hbase hfew hline hs hplain) hsw) fun D σ H h => ?_⟩
  obtain ⟨B, F, ρ, K, w, r0, ⟨bb, ns, vs, p, xs, e1, hl, e2, q⟩, k⟩ := h
  obtain ⟨b', hs1, ho, _⟩ := r0.own i _ e1
  obtain ⟨rfl, dx, fs, hp, rfl, hr⟩ := ho
  obtain ⟨v, hv', rv⟩ := lookF_val hr hl
  obtain rfl : v = .ref p := rep_cls.mp rv
  obtain ⟨p2, hs2, ho2, _⟩ := r0.own j _ e2
  obtain ⟨rfl, vs0, hp0, _⟩ := ho2
  refine ⟨.ref b', hs1, b', C, dx, fs, .ref p2, rfl, hp, c, hn, hv', .inl ⟨rfl, vs0, SqL.of hp0⟩, B, F, ρ, (fun zs ρ1 => match zs with | [y] => (∃ xs', ρ1[j]? = some (some (Lv.own (.lsa p2 xs'))) ∧ u (.lsa p2 xs') y fun d' => K.nx (ρ1.set j (some (Lv.own d')))) | _ => False), w, r0, q, fun F1 H1 ρ1 zs vs w1 x1 r1 hz q1 => ?_⟩
  obtain ⟨y, rfl⟩ : ∃ y, zs = [y] := by
    match zs, q1 with
    | [y], _ => exact ⟨y, rfl⟩
  obtain ⟨xs', e3, q1⟩ := q1
  obtain ⟨v, rr, rfl, hy, hr2⟩ := reps_cons.mp hz
  rw [reps_nil.mp hr2]
  obtain ⟨p', hs', ho', _⟩ := r1.own j _ e3
  obtain rfl : p' = p2 := ho'.1
  refine mu (Z.b B) F1 H1 p' v _ y _ _ w1 ho' hy q1 fun d' o ho3 q2 => ?_
  obtain ⟨w3, r3⟩ := r1.turn w1 (d' := d') e3 hs' ho3
  exact k.nx F1 _ σ _ w3 x1 r3 q2
theorem ds_tryNo {body : List Stmt} {h₀ : ExceptHandler} {hs : List ExceptHandler} {q : ASt} (hb : DSs Z X.nox body q) : DS Z X (.Try body (h₀ :: hs) [] [] pos) q := ⟨ps_try_thru0 hb.ps⟩
def swapL (p : Addr) (xs : List DV) : DV → DV
  | .cls q => if q = p then .lst xs else .cls q
  | d => d
theorem reps_swap {F : Wo} {p : Addr} {xs : List DV} (h : Rep F (.lst xs) (.ref p)) : ∀ {ds : List DV} {vs : List V}, Reps F ds vs → Reps F (ds.map (swapL p xs)) vs
  | [], _, r => by rw [reps_nil.mp r]; exact Reps.nil
  | d :: ds, _, r => by
    obtain ⟨v, w, rfl, hv, hr⟩ := reps_cons.mp r
    refine Reps.cons ?_ (reps_swap h hr)
    cases d with
    | cls q =>
      show Rep F (if q = p then .lst xs else .cls q) v
      rw [rep_cls.mp hv]
      by_cases c : q = p
      · subst c; rw [if_pos rfl]; exact h
      · rw [if_neg c]; exact rep_cls.mpr rfl
    | _ => exact hv
theorem upd_id {H : Hp} {p : Addr} {o : HO} (h : H p = some o) : upd H p o = H := by
  funext b
  by_cases c : b = p
  · subst c; rw [upd_same, h]
  · rw [upd_ne c]
def dSeal (i j : Nat) (t : ASt) : ASt := fun K ρ => ∃ p xs b C ns vs, ρ[j]? = some (some (Lv.own (.lsa p xs))) ∧ i ≠ j ∧ ρ[i]? = some (some (Lv.own (.osa b C ns vs))) ∧
  t K ((ρ.set j (some (Lv.val (.lsa p xs)))).set i (some (Lv.own (.osa b C ns (vs.map (swapL p xs))))))
theorem dss_seal {q : List Stmt} {t : ASt} (i j : Nat) (h : DSs Z X q t) : DSs Z X q (dSeal i j t) := by
  refine ⟨pss_imp h.ps fun D σ H ⟨B, F, ρ, K, w, r, ⟨p, xs, b, C, ns, vs, e1, nij, e2, q⟩, k⟩ => ?_⟩
  obtain ⟨p', o, hs', wf, xf, rf, rp⟩ := w.freeze r e1
  obtain ⟨ep, us, ff, hr⟩ := rep_lsa.mp rp
  cases ep
  have rl : Rep (F.add p o) (.lst xs) (.ref p) := rep_lst.mpr ⟨p, us, rfl, ff, hr⟩
  have e3 : (ρ.set j (some (Lv.val (.lsa p xs))))[i]? = some (some (Lv.own (.osa b C ns vs))) := by rw [List.getElem?_set_ne (Ne.symm nij)]; exact e2
  obtain ⟨b', hb', ho, _⟩ := rf.own i _ e3
  obtain ⟨rfl, dx, fs, hh, hn, hr2⟩ := ho
  obtain ⟨w3, r3⟩ := rf.turn wf (d' := .osa b' C ns (vs.map (swapL p xs))) (o := .ins C dx fs) e3 hb' ⟨rfl, dx, fs, upd_same, hn, reps_swap rl hr2⟩
  rw [upd_id hh] at w3 r3
  exact ⟨B, _, _, K, w3, r3, q, k.mono xf⟩
end
end DL

namespace DL
open PySem L2
/-- a def as it stands behind the top, whatever its defaults are -/
structure FunV (K : PySem.W.Frag) (x qual : Str) (st : Stmt) (f : Addr) (fd : FuncData) : Prop where
  ex : ∃ (oc : Value) (od : Option Addr) (dV kV doc pm : Value) (an : Option Addr) (cdv ct : Value) (osl : Array (Option Value)),
    fd = PySem.W.fnOf x qual (defArgs st) (defBody st) (defScope st) dV kV doc pm an cdv ct ∧ K.lookup f = some ⟨oc, od, .func fd, osl⟩ ∧ PySem.W.codeIn K cdv qual = true ∧ ∃ (T : Addr) (o : Obj) (v0 : Value) (n0 : Nat), dV = .ref T ∧ K.lookup T = some o ∧ o.data = .seq #[v0] n0
theorem funV_mk {K : PySem.W.Frag} {x qual : Str} {st : Stmt} {f : Addr} {oc : Value} {od an : Option Addr} {osl : Array (Option Value)} {kV doc pm cdv ct : Value} {T : Addr} {o : Obj} {v0 : Value} {n0 : Nat} (l : K.lookup f = some ⟨oc, od, .func (PySem.W.fnOf x qual (defArgs st) (defBody st) (defScope st) (.ref T) kV doc pm an cdv ct), osl⟩)
    (c : PySem.W.codeIn K cdv qual = true) (lT : K.lookup T = some o) (oT : o.data = .seq #[v0] n0) : FunV K x qual st f (PySem.W.fnOf x qual (defArgs st) (defBody st) (defScope st) (.ref T) kV doc pm an cdv ct) := ⟨⟨oc, od, .ref T, kV, doc, pm, an, cdv, ct, osl, rfl, l, c, T, o, v0, n0, rfl, lT, oT⟩⟩
abbrev BindV (st : Stmt) (m q : Str) (ps : List Str) : Prop := ∀ (T : Addr) (kV doc pm : Value) (an : Option Addr) (cdv ct v0 : Value) (us : List Value), us.length = ps.length → ∃ k : Option (Array Value) → Sem (List (Str × Value)), bindArgs (PySem.W.fnOf m q (defArgs st) (defBody st) (defScope st) (.ref T) kV doc pm an cdv ct) ⟨us, []⟩ = seqItems? (.ref T) >>= k ∧ k (some #[v0]) = pure (ps.zip us)
structure TxV (K : PySem.W.Frag) (mg : Str → Option Value) (x : Str) (C : Addr) (q : Str) (st : Stmt) : Prop where
  m : mg x = some (.ref C)
  ex : ∃ (f : Addr) (fd : FuncData), FunV K "__init__" q st f fd ∧ Mk K C f
section
variable {P : Program} {w : World} {K : PySem.W.Frag} {mg : Str → Option Value} {base : Heap} {C : Addr} {q x : Str} {st : Stmt} {N ps : List Str} {k n : Nat} {sp : DSp}
theorem FunV.okX {f : Addr} {fd : FuncData} {sp : Sp} (F : FunV K x q st f fd) (S : FnScope N ps (defScope st)) (len : ∀ vs H Q E, sp vs H Q E → vs.length = ps.length)
    (hbody : ∀ (cdv : Value) (A : Around) (outer : List Env) (s : Shared) (H : Hp) (vs : List V) (Q : VK) (E : XK), Room k (A.deeper (PyProof.Rows.envOfC q (defScope st) s.heap.objs.size f cdv)) → sp vs H Q E →
      ∃ t, PSs (cxOf (L2.CX P w) P w K mg base N q (defScope st) f cdv A outer s H E) (defBody st) t ∧ t { nx := fun _ H' => Q .non H', rt := Q } (L2.start N vs) H) : FnOk P w K mg base (L2.CX P w) (k + 1) f fd ps sp := by
  obtain ⟨oc, od, dV, kV, doc, pm, an, cdv, ct, osl, rfl, lk, hcd, _⟩ := F.ex
  exact fn_of lk hcd S len fun A outer s H vs Q E hr hsp => hbody cdv A outer s H vs Q E hr hsp
theorem FunV.binds {f : Addr} {fd : FuncData} (F : FunV K x q st f fd) (h : BindV st x q ps) : Binds K fd ps [] := by
  obtain ⟨oc, od, dV, kV, doc, pm, an, cdv, ct, osl, rfl, lk, hcd, T, o, v0, n0, rfl, lT, oT⟩ := F.ex
  refine fun s us X hl => ?_
  rw [List.append_nil] at hl ⊢
  obtain ⟨k, e1, e2⟩ := h T kV doc pm an cdv ct v0 us hl
  refine BindsTo.of_looks fun M => ?_
  rw [e1]
  exact looks_items X lT oT (.of_pure e2)
theorem dini_okXV {f : Addr} {fd : FuncData} (Fn : FunV K x q st f fd) (S : FnScope N ps (defScope st)) (hps : ps.length = n + 1) (hN : 0 < N.length) {a : WD → ASt}
    (hbody : ∀ (F0 : Wo) (H0 : Hp) (W : WX) (w' : WD) (lk : Lk F0 H0 W w') (cdv : Value) (A : Around) (outer : List Env) (s : Shared) (H : Hp) (E : XK), Room k (A.deeper (PyProof.Rows.envOfC q (defScope st) s.heap.objs.size f cdv)) →
      Takes (cxX P w K mg base N q st f cdv A outer s H E) W → DSs ⟨F0, H0, W, w', lk⟩ (cxX P w K mg base N q st f cdv A outer s H E) (defBody st) (a w'))
    (hsp : ∀ b ds Q E, sp ds Q E → a (fun C ns vs _ => E C ns vs) { nx := IniEnd Q b C, rt := fun _ _ => False } (startI N.length b C ds)) : FnOk P w K mg base (L2.CX P w) (k + 1) f fd ps (spI C (spN n sp)) := by
  refine Fn.okX S (fun vs H Q E ⟨F, H1, ds, Q', E', b, dx, ws, e, _, _, _, _, _, hr, hs, _⟩ => by rw [e, List.length_cons, ← hr.length, hs.1, hps]) fun cdv A outer s H vs Q E hroom h => ?_
  obtain ⟨F, H1, ds, Q', E', b, dx, ws, rfl, na, nd, nad, rfl, w0, hr, hs, hq, hx⟩ := h
  have lk : Lk F H1 (fun cls d _ H' => E cls d H') (fun C ns vs _ => E' C ns vs) := fun L F' H' ρ' σ' C dd fs ds wd _ hf hs' hE => hx F' H' C dd fs ds wd.noL hf hs' hE
  obtain ⟨w1, r1⟩ := startI_rst (C := C) (N := N) w0 na nd nad hr hN
  refine ⟨_, (hbody F H1 (fun cls d _ H' => E cls d H') (fun C ns vs _ => E' C ns vs) lk cdv A outer s _ E hroom (takes_of rfl rfl rfl rfl)).ps, fun _ => none, F, _, _, w1, r1, hsp b ds (fun d => Q' d) E' hs.2, ⟨?_, ?_, ?_, ?_, fun _ _ _ _ _ _ _ _ z => z.elim⟩⟩
  · rintro F' H' σ' ρ' w' x' r' ⟨ns, vs, e, hQ⟩
    obtain ⟨p, o, hs', wf, xf, rf, rp⟩ := w'.freeze r' e
    obtain ⟨ep, dx', fs, ff, en, hr'⟩ := rep_osa.mp rp
    cases ep
    exact hq _ H' _ wf (rep_obj.mpr ⟨_, dx', fs, rfl, ff, en, hr'⟩) hQ
  · exact fun _ _ _ _ _ _ _ q' => False.elim q'
  · exact fun _ _ _ _ _ _ _ q' => False.elim q'
  · exact fun _ _ _ _ _ _ _ _ _ _ q' => False.elim q'
theorem dmak_okXV (T : TxV K mg x C q st) (S : FnScope N ps (defScope st)) (hb : BindV st "__init__" q ps) (hps : ps.length = n + 1) (hN : 0 < N.length) {a : WD → ASt}
    (hbody : ∀ (f : Addr) (F0 : Wo) (H0 : Hp) (W : WX) (w' : WD) (lk : Lk F0 H0 W w') (cdv : Value) (A : Around) (outer : List Env) (s : Shared) (H : Hp) (E : XK), Room k (A.deeper (PyProof.Rows.envOfC q (defScope st) s.heap.objs.size f cdv)) →
      Takes (cxX P w K mg base N q st f cdv A outer s H E) W → DSs ⟨F0, H0, W, w', lk⟩ (cxX P w K mg base N q st f cdv A outer s H E) (defBody st) (a w'))
    (hsp : ∀ b ds Q E, sp ds Q E → a (fun C ns vs _ => E C ns vs) { nx := IniEnd Q b C, rt := fun _ _ => False } (startI N.length b C ds)) : Kg (L2.CX P w) P w K mg base x C (k + 1) n sp := by
  obtain ⟨f, fd, F, M⟩ := T.ex
  exact ⟨T.m, f, fd, ps, dini_okXV F S hps hN (hbody f) hsp, M, F.binds hb, hps⟩
end
theorem iok_en {F : Wo} {p : Addr} {vs : List V} {ds : List DV} {K : PySem.W.Frag} (f : F.fz p = some (.lst vs)) (h : Reps F ds vs) : IOk F (Ite K p) (enumD 0 ds) := by
  have key : ∀ B F2 H2, Wd B F2 H2 → Ext F F2 → SqL K H2 p vs := fun B F2 H2 w e => SqL.of (w.sqL (K := K) (e.1 _ _ f))
  have hl := h.length
  have el := enumD_len 0 ds
  refine ⟨fun B F2 H2 i w e hi => ⟨vs, vs[i]'(by omega), key B F2 H2 w e, by simp⟩, fun B F2 H2 w e => ⟨vs, key B F2 H2 w e, by omega⟩, fun B F2 H2 i x H' w e hi y => ?_⟩
  obtain ⟨T, x, rfl, hT, rfl, y⟩ := y
  obtain ⟨d, hd, hr⟩ := h.getV (y vs (key B F2 _ w e))
  obtain ⟨st, rr⟩ := Stp.tupN w hT (Reps.cons (rep_int (F := F2).mpr rfl) (Reps.cons (hr.mono e) Reps.nil))
  have g := enumD_get 0 ds i d hd
  rw [show (0 : Int) + (i : Nat) = (i : Nat) by omega] at g
  exact ⟨_, _, st, g, rr⟩
def fEn (d : DV) (Q : List DV → Prop) : Prop := match d with
  | .lst ds => Q (enumD 0 ds)
  | _ => False
def dEn (a : AE) : AI := fun ρ Q => a ρ fun d ρ1 => fEn d fun l => Q l ρ1
section
variable {Z : Zx} {X : Cx} {pos p tpos : Pos} {e : Expr} {a : AE} {elts : List Expr} {kk : Nat}
theorem di_enum (hg : Gl X "enumerate") (hm : X.mg "enumerate" = none) (h1 : DE Z X e a) (hs : starEach [e] X.env = [(false, eval e X.env)] := by rfl) :
    DI Z X (.Tuple elts kk tpos) (.Call (.Name "enumerate" p) [e] [] pos) (dEn a) := by
  refine ⟨⟨fun pins s σ H R I h0 => (pi_enum hg hm (da_cons h1 da_nil hs).pa hs).run pins s σ H R I ?_⟩⟩
  obtain ⟨L, F, ρ, Q', w, r, q, k⟩ := h0
  refine ⟨L, F, ρ, (fun zs ρ1 => match zs with | [d] => fEn d fun l => Q' l ρ1 | _ => False), w, r, q, fun F1 H1 ρ1 zs vs w1 x1 r1 hz q1 => ?_⟩
  obtain ⟨d, rfl⟩ : ∃ d, zs = [d] := by
    match zs, q1 with
    | [d], _ => exact ⟨d, rfl⟩
  obtain ⟨v, rr, rfl, hd, hr⟩ := reps_cons.mp hz
  rw [reps_nil.mp hr]
  have q1 : fEn d fun l => Q' l ρ1 := q1
  cases d with
  | lst ds =>
    obtain ⟨pa, ws, rfl, f, hs⟩ := rep_lst.mp hd
    exact ⟨pa, ws, rfl, SqL.of (w1.sqL (K := X.K) f), k F1 H1 ρ1 _ _ w1 x1 r1 (iok_en f hs) q1⟩
  | _ => exact False.elim q1
end
end DL

namespace DL
open PySem L2 PySem.Spec PyProof.Rows
section
variable {Z : Zx} {X : Cx} {pos p p1 p2 : Pos} {e e2 : Expr} {a b : AE} {x : Str} {i : Nat}
/-- what the comparison of each entry gives -/
def HitsV (K : PySem.W.Frag) (H : Hp) (ls : List (Key × V)) : List (Key × V) → Bool → Prop
  | [], r => r = true
  | p :: ks, r => (valV ls p.1 = none ∧ r = false) ∨ ∃ u d e r', valV ls p.1 = some u ∧ Dp K H p.2 d ∧ Dp K H u e ∧ SeqAt.shaped d = true ∧ SeqAt.shaped e = true ∧ HitsV K H ls ks r' ∧ r = (PyData.eqv d e && r')
def rEqK (K : PySem.W.Frag) (neg : Bool) : R2 := fun x y H Q => ∃ a b ks ls r, x = .ref a ∧ y = .ref b ∧ Rd H a (.dK ks) ∧ Rd H b (.dK ls) ∧ HitsV K H ls ks r ∧ Q (.bl (neg ^^ (ks.length == ls.length && r))) H
theorem hitsV_run {pins : List (Addr × Obj)} {σ : L2.St} {H : Hp} {s : Shared} (I : Inv X pins σ H s) {A : Around} (hu : A.in1.units + 64 < cLine) {ls : List (Key × V)} {vb : List (Key × Value)} (rb : KV ls vb) :
    ∀ {ks : List (Key × V)} {va : List (Key × Value)} {r : Bool}, KV ks va → HitsV X.K H ls ks r → PySem.W.KeqHits A.in1 s vb va r
  | [], va, r, ra, h => by
    unfold KV at ra
    cases ra
    have h : r = true := h
    subst h
    exact .nil
  | p :: ks, va, r, ra, h => by
    unfold KV at ra
    cases ra with
    | @cons _ q _ qs h1 t =>
      obtain ⟨h1, h2⟩ := h1
      obtain ⟨key, v⟩ := q
      have h1' : p.1 = key := h1
      rcases h with ⟨hn, rfl⟩ | ⟨u, d, e, r', hu1, hd, he, sd, se, hr, rfl⟩
      · have rr : RelO none (valueAt vb p.1) := by rw [← hn]; exact rb.val p.1
        have : valueAt vb key = none := by
          rw [← h1']
          cases hv : valueAt vb p.1 with
          | none => rfl
          | some z => rw [hv] at rr; exact absurd rr (by simp [RelO])
        exact .miss this
      · have rr : RelO (some u) (valueAt vb p.1) := by rw [← hu1]; exact rb.val p.1
        obtain ⟨y, hy, ry⟩ := rr.some_of
        rw [h1'] at hy
        obtain ⟨as, r1⟩ := Dp.reads I d _ _ hd h2
        obtain ⟨bs, r2⟩ := Dp.reads I e _ _ he ry
        exact .hit hy (PySem.W.keq_at r1 r2 sd se hu) (hitsV_run I hu rb t hr)
theorem op_eqK (hu : X.A.units + 100 < cLine) : OpR X (compareOp .Eq) (rEqK X.K false) := by
  intro pins s σ H x y v u Q I rx ry h
  obtain ⟨a, b, ks, ls, r, rfl, rfl, ea, eb, hh, q⟩ := h
  obtain rfl : v = Value.ref a := rx
  obtain rfl : u = Value.ref b := ry
  obtain ⟨_, ya, va, ra, da⟩ := (show ObjOk X.prog X.w H s.heap a (.dK ks) from ea.ok I.hok)
  obtain ⟨_, yb, vb, rb, db⟩ := (show ObjOk X.prog X.w H s.heap b (.dK ls) from eb.ok I.hok)
  have la : ks.length = va.length := ra.length
  have lb : ls.length = vb.length := rb.length
  have hu1 : X.A.in1.units + 64 < cLine := by show X.A.units + 1 + 64 < _; omega
  exact PySem.W.keq_eq (knd := mixKind X.prog X.w) (r := r) ya yb da db (by omega) (fun _ => hitsV_run I hu1 rb ra hh) (fin_bl I q (by rw [la, lb]; simp))
def HitsD (ls : List Key) (ws : List DV) : List Key → List DV → Bool → Prop
  | k :: ks, d :: ds, r => (lookD ls ws k = none ∧ r = false) ∨ ∃ u p q r', lookD ls ws k = some u ∧ toP d = some p ∧ toP u = some q ∧ SeqAt.shaped p = true ∧ SeqAt.shaped q = true ∧ HitsD ls ws ks ds r' ∧ r = (PyData.eqv p q && r')
  | _, _, r => r = true
@[irreducible] def fEqK (neg : Bool) (x y : DV) (Q : DV → Prop) : Prop := match x, y with
  | .dic ks vs, .dic ls ws => ∃ r, HitsD ls ws ks vs r ∧ Q (.bl (neg ^^ (ks.length == ls.length && r)))
  | _, _ => False
theorem lookD_non {F : Wo} {k : Key} : ∀ {ds : List DV} {kvs : List (Key × V)}, Reps F ds (kvs.map (·.2)) → lookD (kvs.map (·.1)) ds k = none → valV kvs k = none
  | _, [], _, _ => rfl
  | ds, kv :: kvs, h, e => by
    obtain ⟨d, r, rfl⟩ : ∃ d r, ds = d :: r := by
      cases ds with
      | nil => have := reps_nil.mp h; exact nomatch this
      | cons d r => exact ⟨d, r, rfl⟩
    obtain ⟨v, w, ew, hv, hr⟩ := reps_cons.mp h
    cases ew
    have e2 : (if kv.1 = k then some d else lookD (kvs.map (·.1)) r k) = none := by
      rw [← e]
      unfold lookD
      simp only [List.map_cons, List.zip_cons_cons, List.find?_cons]
      by_cases c : kv.1 = k
      · simp [c]
      · simp [c]
    by_cases c : kv.1 = k
    · rw [if_pos c] at e2; exact nomatch e2
    · rw [if_neg c] at e2
      rw [valV_neg c]; exact lookD_non hr e2
theorem hitsD_run {K : PySem.W.Frag} {B : Bs} {F : Wo} {H : Hp} (w : Wd B F H) {ls : List (Key × V)} {ws : List DV} (hw : Reps F ws (ls.map (·.2))) : ∀ {ks : List (Key × V)} {ds : List DV} {r : Bool}, Reps F ds (ks.map (·.2)) → HitsD (ls.map (·.1)) ws (ks.map (·.1)) ds r → HitsV K H ls ks r
  | [], ds, r, h, q => by cases ds <;> exact q
  | kv :: ks, ds, r, h, q => by
    obtain ⟨d, t, rfl⟩ : ∃ d t, ds = d :: t := by
      cases ds with
      | nil => have := reps_nil.mp h; exact nomatch this
      | cons d r => exact ⟨d, r, rfl⟩
    obtain ⟨v, z, ew, hv, hr⟩ := reps_cons.mp h
    cases ew
    rcases q with ⟨hn, rfl⟩ | ⟨u, p, q', r', hu, hp, hq, sp, sq, hh, rfl⟩
    · exact .inl ⟨lookD_non hw hn, rfl⟩
    · obtain ⟨uv, hu2, ru⟩ := lookD_val hw hu
      exact .inr ⟨uv, p, q', r', hu2, rep_dp w hv hp, rep_dp w ru hq, sp, sq, hitsD_run w hw hr hh, rfl⟩
theorem od_eqK {K : PySem.W.Frag} {neg : Bool} : OpD (rEqK K neg) (fEqK neg) := by
  intro B F H x y dx dy Q Q' w hx hy h k
  unfold fEqK at h
  cases dx <;> first | exact False.elim h | (cases dy <;> first | exact False.elim h | skip)
  rename_i ks vs ls ws
  obtain ⟨r, hh, q⟩ := h
  obtain ⟨a, ka, rfl, fa, rfl, ra⟩ := rep_dic.mp hx
  obtain ⟨b, kb, rfl, fb, rfl, rb⟩ := rep_dic.mp hy
  rw [List.length_map, List.length_map] at q
  exact ⟨a, b, ka, kb, r, rfl, rfl, w.rdD fa, w.rdD fb, hitsD_run w rb ra hh, k F H _ _ (Stp.refl w) (rep_bl.mpr rfl) q⟩
end
end DL

namespace DL
open PySem L2
/-- rules of a size, of true signs -/
structure SzOk (r : Rules) : Prop where
  sz : SizeR r
  ok : ∀ p ∈ r, PyData.strOk p.1 = true ∧ OkS p.2
theorem SzOk.get {r : Rules} (h : SzOk r) {x : Str} (hx : x ∈ namesR r) : OkS (getR r x) := (h.ok _ (getR_mem hx)).2
end DL

namespace DL
open PySem L2
def putR (r : Rules) (x : Str) (v : List Str) : Rules := if x ∈ namesR r then setR r x v else r ++ [(x, v)]
structure FR (n : Nat) (r : Rules) : Prop where
  ne : r ≠ []
  nd : (namesR r).Nodup
  len : r.length ≤ n
  ok : ∀ p ∈ r, p.1.length ≤ 10 ∧ PyData.strOk p.1 = true ∧ p.2.length ≤ 10 ∧ OkS p.2
theorem FR.szok {n : Nat} {r : Rules} (h : FR n r) (hn : n < 64) : SzOk r :=
  ⟨⟨by have := h.len; omega, h.nd, fun p hp => by have := h.ok p hp; omega⟩, fun p hp => ⟨(h.ok p hp).2.1, (h.ok p hp).2.2.2⟩⟩
theorem FR.mono {n m : Nat} {r : Rules} (h : FR n r) (hm : n ≤ m) : FR m r := ⟨h.ne, h.nd, Nat.le_trans h.len hm, h.ok⟩
theorem FR.put {n : Nat} {r : Rules} (h : FR n r) {x : Str} {v : List Str} (h1 : x.length ≤ 10) (h2 : PyData.strOk x = true) (h3 : v.length ≤ 10) (h4 : OkS v) : FR (n + 1) (putR r x v) := by
  unfold putR
  by_cases hx : x ∈ namesR r
  · rw [if_pos hx]
    refine ⟨fun e => ?_, by rw [names_setR hx]; exact h.nd, by rw [setR_len hx]; have := h.len; omega, fun p hp => ?_⟩
    · have := setR_len (v := v) hx
      rw [e] at this
      exact h.ne (List.eq_nil_of_length_eq_zero this.symm)
    · rcases mem_setR hp with h' | rfl
      · exact h.ok p h'
      · exact ⟨h1, h2, h3, h4⟩
  · rw [if_neg hx]
    refine ⟨by simp, ?_, by rw [List.length_append]; have := h.len; show _ + 1 ≤ _; omega, fun p hp => ?_⟩
    · have : namesR (r ++ [(x, v)]) = namesR r ++ [x] := by unfold namesR; rw [List.map_append]; rfl
      rw [this, List.nodup_append]
      refine ⟨h.nd, List.nodup_cons.mpr ⟨by simp, List.nodup_nil⟩, fun a ha b hb e => ?_⟩
      rw [List.mem_singleton] at hb; subst hb; subst e; exact hx ha
    · rcases List.mem_append.mp hp with h' | h'
      · exact h.ok p h'
      · rw [List.mem_singleton.mp h']; exact ⟨h1, h2, h3, h4⟩
theorem FR.get {n : Nat} {r : Rules} (h : FR n r) {x : Str} (hx : x ∈ namesR r) : (getR r x).length ≤ 10 ∧ OkS (getR r x) := by
  have := h.ok _ (getR_mem hx)
  exact ⟨this.2.2.1, this.2.2.2⟩
end DL

namespace L2
open PySem PySem.Spec PyProof.Rows
section
variable {X : Cx} {k : Nat} {f C : Addr} {fd : FuncData} {ps : List Str} {sp : Sp}
/-- a def called from inside a built-in -/
theorem run_at {A : Around} {pins : List (Addr × Obj)} {σ : St} {H : Hp} {s : Shared} {Q : VK} {us : List Value} {vs : List V} (F : FnOk X.prog X.w X.K X.mg X.base CX0 k f fd ps sp) (sb : Sub X k A) (hb : Binds X.K fd ps []) (I : Inv X pins σ H s) (r : Vals vs us) (h : sp vs H Q E0) :
    wpAny (model X.prog X.w) A (call (.ref f) us) (EP X pins σ Q) X.xe s := by
  have e0 : Env0 X.prog X.w X.K X.mg X.base A X.stack s H := by
    have e := I.env0
    exact ⟨by rw [sb.fr]; exact e.frames, e.mod, e.bs, e.bsz, e.funs, e.frf, e.hok, e.bare⟩
  have hl : us.length = ps.length := by rw [← r.length]; exact F.len _ _ _ _ h
  have bd := hb s us I.kIn (by rw [List.append_nil]; exact hl)
  rw [List.append_nil] at bd
  refine wpAny_call (codeAny_mono (F.run A X.stack s H ⟨us, []⟩ us vs Q E0 sb.room e0 bd r h) fun r s' hq => ?_)
  cases r with
  | error e => exact pass0 pins σ H s e s' I hq
  | ok fl =>
    cases fl with
    | ret u => exact I.after hq
    | next => exact False.elim hq
    | brk => exact False.elim hq
    | cont => exact False.elim hq
/-- an own method f of the class C under the name m -/
structure OwnM (K : PySem.W.Frag) (C : Addr) (m : Str) (f : Addr) : Prop where
  at_ : PySem.W.findIn K (.ref C) m = some (some (.ref f))
  fn : PySem.W.isFn K (.ref f) = true
def InsO (H : Hp) (C : Addr) (x : V) : Prop := ∃ a dx fs, x = .ref a ∧ H a = some (.ins C dx fs)
def rEqO (C : Addr) (sp : Sp) (neg : Bool) : R2 := fun x y H Q => InsO H C x ∧ InsO H C y ∧ sp [x, y] H (fun v H' => ∃ b, v = .bl b ∧ Q (.bl (neg ^^ b)) H') E0
/-- != where the class has only ==: the opposite -/
structure NeO (K : PySem.W.Frag) (C : Addr) : Prop where
  ob : PySem.W.mroIn K C (.type "object") = some true
  ne : PySem.W.findIn K (.ref C) "__ne__" = some (some (.builtin "object.__ne__"))
end
end L2
namespace HN
open PySem PySem.Spec PyProof.Rows PySem.SeqAt PySem.W
section
variable {M : Model} {prog : Program} {w : World} {A : Around} {E : Value → Shared → Prop} {s : Shared} {K : PySem.W.Frag} {x C f : Addr} {ox : Obj} {od : Option Obj} {y tb : Value}
theorem ifBound_objNe {args : List Value} {Q : Option Value → Shared → Prop} (X : K.In s.heap) (I : PySem.W.InstAt s.heap x ox C od) (hs : PySem.W.findIn K (.ref C) "__ne__" = some (some (.builtin "object.__ne__")))
    (h : wpAny M A (call (.builtin "object.__ne__") (.ref x :: args)) (fun v => Q (some v)) E s) : wpAny M A (callSpecialIfBound? (.ref x) "__ne__" args) Q E s := by
  simp only [callSpecialIfBound?, bindSpecialIfBound?]
  refine wpAny_holding (wpAny_bind (wpAny_bind (wpAny_bind (I.type.here ((PySem.W.looks_findIn X hs).here ?_)))))
  refine wpAny_bind (wpAny_askSetting (wpAny_ite ?_))
  have fin : wpAny M A (call (.builtin "object.__ne__") ([.ref x] ++ args) >>= fun v => pure (some v)) Q E s := wpAny_bind (wpAny_mono h (fun v s' h' => wpAny_pure h') fun _ _ h' => h')
  split
  · exact wpAny_bind (wpAny_of_eq (F.cmp_object.ne.bind _) (wpAny_pure (by exact fin)))
  · exact wpAny_tryCatch (wpAny_bind (wpAny_of_eq (F.cmp_object.ne.bind _) (wpAny_pure (by exact fin))))
theorem entry_neO {Q : Fin → Shared → Prop} (hu : A.units < cLine) (X : K.In s.heap) (I : PySem.W.InstAt s.heap x ox C od) (hs : PySem.W.findIn K (.ref C) "__eq__" = some (some (.ref f))) (hf : PySem.W.isFn K (.ref f) = true)
    (h : wpAny (model prog w) A (call (.ref f) [.ref x, y]) (fun v s' => ∃ b, v = .bool b ∧ Q (.done (.ret (.bool (!b)))) s') E s) : wpAny (model prog w) A (Builtin.«object.__ne__» ⟨[.ref x, y], []⟩) Q E s := by
  unfold Builtin.«object.__ne__»
  refine wpAny_bind (m := slotArgs "__ne__" 1 _) (wpAny_pure ?_)
  refine wpAny_bind (m := cRoomFor _ _) (wpAny_cRoomFor hu ?_)
  refine wpAny_bind (m := callSpecialIfBound? (.ref x) (Str.ofString "__eq__") _) (PySem.W.ifBound_K X I hs hf (wpAny_mono h (fun r s' hq => ?_) fun _ _ y => y))
  obtain ⟨b, rfl, hq⟩ := hq
  exact wpAny_bind (wpAny_truthy_bool (wpAny_pure hq))
theorem ne_O {Q : Value → Shared → Prop} (hu : A.in1.units < cLine) (hu0 : A.units < cLine) (X : K.In s.heap) (I : PySem.W.InstAt s.heap x ox C od) (hb : Looks (model prog w) s.heap (typeOf y) tb) (hn : PySem.W.notFirst K C tb = true) (hm : PySem.W.mroIn K C (.type "object") = some true)
    (hne : PySem.W.findIn K (.ref C) "__ne__" = some (some (.builtin "object.__ne__"))) (hs : PySem.W.findIn K (.ref C) "__eq__" = some (some (.ref f))) (hf : PySem.W.isFn K (.ref f) = true)
    (h : wpAny (model prog w) A.in1 (call (.ref f) [.ref x, y]) (fun v s' => ∃ b, v = .bool b ∧ Q (.bool (!b)) s') E s) : wpAny (model prog w) A (richCompare .NotEq (.ref x) y) Q E s := by
  have one : wpAny (model prog w) A (tryCompare (.ref x) "__ne__" y) (fun r s' => ∃ v, r = some v ∧ Q v s') E s := by
    unfold tryCompare
    refine wpAny_bind (ifBound_objNe X I hne ?_)
    refine wpAny_call (codeAny_call_builtin F.cmp_object.ne.plain F.cmpEntry_ne (PySem.W.check_slot F.cmpKind_ne F.cmpSplit_ne (I.type.andThen (PySem.W.looks_mroIn X hm)) (F.cmpArgs_ne _ _) (entry_neO hu X I hs hf (wpAny_mono h (fun v s' hv => ?_) fun _ _ e => e))))
    obtain ⟨b, rfl, hq⟩ := hv
    exact ⟨b, rfl, wpAny_pure ⟨_, rfl, hq⟩⟩
  unfold richCompare
  simp only [oneThing_ref]
  refine wpAny_holding (wpAny_bind (wpAny_cRoomFor hu0 ?_))
  refine wpAny_bind (I.type.here (wpAny_bind (hb.here ?_)))
  split
  · rename_i q
    have e : PySem.W.subIn K tb (.ref C) = some false := by
      rcases Bool.or_eq_true_iff.mp hn with e | e
      · rw [beq_iff_eq.mp e] at q; simp at q
      · exact beq_iff_eq.mp e
    refine wpAny_bind ((PySem.W.looks_subIn X e).here ?_)
    simp only [Bool.false_eq_true, if_false]
    refine wpAny_bind (wpAny_mono one (fun r s' z => ?_) fun _ _ e => e)
    obtain ⟨v, rfl, hq⟩ := z
    exact wpAny_pure hq
  · refine wpAny_bind (wpAny_pure ?_)
    simp only [Bool.false_eq_true, if_false]
    refine wpAny_bind (wpAny_mono one (fun r s' z => ?_) fun _ _ e => e)
    obtain ⟨v, rfl, hq⟩ := z
    exact wpAny_pure hq
/-- len(x), x's class has its own -/
theorem len_O {Q : Value → Shared → Prop} (X : K.In s.heap) (I : PySem.W.InstAt s.heap x ox C od) (hs : PySem.W.findIn K (.ref C) "__len__" = some (some (.ref f))) (hf : PySem.W.isFn K (.ref f) = true)
    (h : wpAny (model prog w) A.in1 (call (.ref f) [.ref x]) (fun v s' => ∃ n : Nat, ∃ t, v = .int n t ∧ (n : Int) < 2 ^ 63 ∧ ∀ t tk, Q (.int n t) { s' with toks := tk }) E s) : wpAny (model prog w) A (call (.builtin "len") [.ref x]) Q E s := by
  refine Calls.call_function_entry kind_len plain_len entry_len (args_len1 _) ?_
  unfold Builtin.«len»
  refine wpAny_bind (m := oneArg "len" _) (wpAny_pure ?_)
  refine wpAny_bind (m := callSpecial? (.ref x) (Str.ofString "__len__")) (PySem.W.special_fn X I hs (beq_iff_eq.mp hf) (wpAny_mono h (fun v s' hv => ?_) fun _ _ e => e))
  obtain ⟨n, t, rfl, hz, hq⟩ := hv
  refine wpAny_bind (wpAny_holding (wpAny_pure ?_))
  refine wpAny_bind (wpAny_letGo ?_)
  show wpAny _ _ (if ((n : Nat) : Int) < 0 then _ else _) _ _ _
  rw [if_neg (by omega)]
  show wpAny _ _ (if ((n : Nat) : Int) ≥ 2 ^ 63 then _ else _) _ _ _
  rw [if_neg (by omega)]
  exact wpAny_bind (wpAny_mkInt (wpAny_pure ⟨_, rfl, hq _ _⟩))
/-- repr(x), x's class has its own -/
theorem repr_O {Q : Value → Shared → Prop} (hu : A.in1.units < cLine) (X : K.In s.heap) (I : PySem.W.InstAt s.heap x ox C od) (hs : PySem.W.findIn K (.ref C) "__repr__" = some (some (.ref f))) (hf : PySem.W.isFn K (.ref f) = true)
    (h : wpAny (model prog w) A.in1 (call (.ref f) [.ref x]) (fun v s' => ∃ y t, v = .str y t ∧ Q (.str y t) s') E s) : wpAny (model prog w) A (call (.builtin "repr") [.ref x]) Q E s := by
  refine Calls.call_function_entry F.kind_repr F.plain_repr F.entry_repr (F.args_repr1 _) ?_
  unfold Builtin.«repr»
  refine wpAny_bind (m := oneArg "repr" _) (wpAny_pure ?_)
  refine wpAny_bind (m := cRoomFor _ _) (wpAny_cRoomFor hu ?_)
  refine wpAny_bind (m := specialOf (.ref x) (Str.ofString "__repr__")) ?_
  unfold specialOf
  refine wpAny_bind (I.type.here ((PySem.W.looks_findIn X hs).here ?_))
  refine wpAny_bind (m := callSpecialIfBound? (.ref x) (Str.ofString "__repr__") _) (PySem.W.ifBound_K X I hs hf (wpAny_mono h (fun v s' hv => ?_) fun _ _ e => e))
  obtain ⟨y, t, rfl, hq⟩ := hv
  refine wpAny_bind (wpAny_isInstance (T := "str") (b := true) (typeIs_str _ _ _) isSubtype_str_str ?_)
  exact wpAny_pure ⟨_, rfl, hq⟩
end
end HN
namespace L2
open PySem PySem.Spec PyProof.Rows
section
variable {X : Cx} {k : Nat} {f C : Addr} {fd : FuncData} {ps : List Str} {sp : Sp}
theorem op_neO (M : OwnM X.K C "__eq__" f) (N : NeO X.K C) (F : FnOk X.prog X.w X.K X.mg X.base CX0 k f fd ps sp) (hr : Room (k + 1) X.A) (hb : Binds X.K fd ps []) : OpR X (compareOp .NotEq) (rEqO C sp true) := by
  intro pins s σ H x y v u Q I rx ry h
  obtain ⟨⟨a, dx, fs, rfl, ha⟩, ⟨b, dy, gs, rfl, hb'⟩, hq⟩ := h
  obtain rfl : v = Value.ref a := rx
  obtain rfl : u = Value.ref b := ry
  obtain ⟨mA, J, _⟩ := ins_get I.hok ha
  obtain ⟨mB, J', _⟩ := ins_get I.hok hb'
  obtain ⟨od, J, _⟩ := J.look
  obtain ⟨od', J', _⟩ := J'.look
  show wpAny (model X.prog X.w) X.A (richCompare .NotEq (.ref a) (.ref b)) (EP X pins σ Q) X.xe s
  refine HN.ne_O (tb := .ref C) hr.in1.units0 hr.units0 I.kIn J J'.type (by simp [PySem.W.notFirst]) N.ob N.ne M.at_ M.fn ?_
  refine wpAny_mono (run_at F ⟨hr.in1, rfl⟩ hb I (Paired.cons (a := V.ref a) rfl (Paired.cons (a := V.ref b) rfl .nil)) hq) (fun r s' z => ?_) fun _ _ z => z
  obtain ⟨w', H', I', rw', b, e, q⟩ := z
  subst e
  obtain rfl : r = Value.bool b := rw'
  exact ⟨b, rfl, .bl (true ^^ b), H', I', by simp [RelV], q⟩
def rLenO (C : Addr) (sp : Sp) : List V → Hp → VK → Prop := fun xs H Q => ∃ x, xs = [x] ∧ InsO H C x ∧ sp [x] H (fun v H' => ∃ n : Nat, v = .int n ∧ (n : Int) < 2 ^ 63 ∧ Q (.int n) H') E0
theorem call_lenO (M : OwnM X.K C "__len__" f) (F : FnOk X.prog X.w X.K X.mg X.base CX0 k f fd ps sp) (hr : Room (k + 1) X.A) (hb : Binds X.K fd ps []) : CallR X (.builtin "len") (rLenO C sp) := by
  intro pins s σ H xs us Q I r h
  obtain ⟨x, rfl, ⟨a, dx, fs, rfl, ha⟩, hq⟩ := h
  obtain ⟨u, rfl, ru⟩ := vals1 r
  obtain rfl : u = Value.ref a := ru
  obtain ⟨mA, J, _⟩ := ins_get I.hok ha
  obtain ⟨od, J, _⟩ := J.look
  refine HN.len_O I.kIn J M.at_ M.fn (wpAny_mono (run_at F ⟨hr.in1, rfl⟩ hb I (Paired.cons (a := V.ref a) rfl .nil) hq) (fun r s' z => ?_) fun _ _ z => z)
  obtain ⟨w', H', I', rw', n, e, hz, q⟩ := z
  subst e
  obtain ⟨t, rfl⟩ := (show ∃ t, r = Value.int n t from rw')
  exact ⟨n, t, rfl, hz, fun t tk => ⟨.int n, H', I'.tok tk, ⟨t, rfl⟩, q⟩⟩
def rTxtO (C : Addr) (sp : Sp) : List V → Hp → VK → Prop := fun xs H Q => ∃ x, xs = [x] ∧ InsO H C x ∧ sp [x] H (fun v H' => ∃ z, v = .str z ∧ Q (.str z) H') E0
theorem call_reprO (M : OwnM X.K C "__repr__" f) (F : FnOk X.prog X.w X.K X.mg X.base CX0 k f fd ps sp) (hr : Room (k + 1) X.A) (hb : Binds X.K fd ps []) : CallR X (.builtin "repr") (rTxtO C sp) := by
  intro pins s σ H xs us Q I r h
  obtain ⟨x, rfl, ⟨a, dx, fs, rfl, ha⟩, hq⟩ := h
  obtain ⟨u, rfl, ru⟩ := vals1 r
  obtain rfl : u = Value.ref a := ru
  obtain ⟨mA, J, _⟩ := ins_get I.hok ha
  obtain ⟨od, J, _⟩ := J.look
  refine HN.repr_O hr.in1.units0 I.kIn J M.at_ M.fn (wpAny_mono (run_at F ⟨hr.in1, rfl⟩ hb I (Paired.cons (a := V.ref a) rfl .nil) hq) (fun r s' z => ?_) fun _ _ z => z)
  obtain ⟨w', H', I', rw', n, e, q⟩ := z
  subst e
  obtain ⟨t, rfl⟩ := (show ∃ t, r = Value.str n t from rw')
  exact ⟨n, t, rfl, .str n, H', I', ⟨t, rfl⟩, q⟩
theorem call_strO (M : OwnM X.K C "__str__" f) (F : FnOk X.prog X.w X.K X.mg X.base CX0 k f fd ps sp) (hr : Room (k + 2) X.A) (hb : Binds X.K fd ps []) : CallR X (.type "str") (rTxtO C sp) := by
  intro pins s σ H xs us Q I r h
  obtain ⟨x, rfl, ⟨a, dx, fs, rfl, ha⟩, hq⟩ := h
  obtain ⟨u, rfl, ru⟩ := vals1 r
  obtain rfl : u = Value.ref a := ru
  obtain ⟨mA, J, _⟩ := ins_get I.hok ha
  obtain ⟨od, J, _⟩ := J.look
  refine PySem.W.kso_call hr.in1.in1.units0 I.kIn J M.at_ M.fn (wpAny_mono (run_at F ⟨hr.in1.in1, rfl⟩ hb I (Paired.cons (a := V.ref a) rfl .nil) hq) (fun r s' z => ?_) fun _ _ z => z)
  obtain ⟨w', H', I', rw', n, e, q⟩ := z
  subst e
  obtain ⟨t, rfl⟩ := (show ∃ t, r = Value.str n t from rw')
  exact ⟨.str n, H', I', ⟨t, rfl⟩, q⟩
end
end L2
namespace DL
open PySem L2
section
variable {Z : Zx} {X : Cx} {pos p : Pos} {e e1 e2 : Expr} {a b : AE} {t : AA} {C : Addr} {sp : DSp} {k : Nat}
def IsOb (C : Addr) (d : DV) : Prop := ∃ ns ds, d = .obj C ns ds
theorem isOb_ins {B : Bs} {F : Wo} {H : Hp} {d : DV} {v : V} (w : Wd B F H) (h : Rep F d v) (i : IsOb C d) : InsO H C v := by
  obtain ⟨ns, ds, rfl⟩ := i
  obtain ⟨b, dx, fs, rfl, ff, rfl, hs⟩ := rep_obj.mp h
  exact ⟨b, dx, fs, rfl, w.ins ff⟩
theorem xok_no {F : Wo} {H : Hp} : XOk F H noE L2.E0 := fun _ _ _ _ _ _ _ _ _ z => z.elim
/-- x == y by the class's own -/
@[irreducible] def fEqO (C : Addr) (sp : DSp) (neg : Bool) (x y : DV) (Q : DV → Prop) : Prop := IsOb C x ∧ IsOb C y ∧ spN 2 sp [x, y] (fun d => ∃ b, d = .bl b ∧ Q (.bl (neg ^^ b))) noE
theorem od_eqO {neg : Bool} : OpD (rEqO C (spD (spN 2 sp)) neg) (fEqO C sp neg) := by
  intro B F H x y dx dy Q Q' w hx hy h kk
  unfold fEqO at h
  obtain ⟨h1, h2, h⟩ := h
  refine ⟨isOb_ins w hx h1, isOb_ins w hy h2, F, [dx, dy], _, _, w.again, Reps.cons hx (Reps.cons hy Reps.nil), h, fun F2 H2 d v w2 hr ⟨b, e, q⟩ => ?_, xok_no⟩
  subst e
  exact ⟨b, rep_bl.mp hr, kk F2 H2 _ _ (w.call w2) (rep_bl.mpr rfl) q⟩
theorem eqO_go {neg : Bool} {x y : DV} {Q : DV → Prop} (h1 : IsOb C x) (h2 : IsOb C y) (h : spN 2 sp [x, y] (fun d => ∃ b, d = .bl b ∧ Q (.bl (neg ^^ b))) noE) : fEqO C sp neg x y Q := by unfold fEqO; exact ⟨h1, h2, h⟩
theorem Meth.own {K : PySem.W.Frag} {m : Str} {f : Addr} (M : Meth K C m f) : OwnM K C m f := ⟨M.at_, M.fn⟩
theorem dt_neO (N : NeO X.K C) (G : Mg CX0 X.prog X.w X.K X.mg X.base C "__eq__" k 2 sp) (hr : Room (k + 1) X.A) (h1 : DE Z X e1 a) (h2 : DE Z X e2 b) (hm : behindInMarks .NotEq e2 = false) : DT Z X (.Compare e1 [.NotEq] [e2] pos) (dTest (dOp (fEqO C sp true) a b)) := by
  obtain ⟨f, fd, ps, F, M, bb, hn⟩ := G.ex
  exact dt_cmp (op_neO (Meth.own M) N F hr bb) od_eqO h1 h2 hm
/-- len(x) by the class's own -/
@[irreducible] def fLenO (C : Addr) (sp : DSp) (ds : List DV) (Q : DV → Prop) : Prop := ∃ x, ds = [x] ∧ IsOb C x ∧ spN 1 sp [x] (fun d => ∃ n : Nat, d = .int n ∧ (n : Int) < 2 ^ 63 ∧ Q (.int n)) noE
theorem lenO_go {x : DV} {Q : DV → Prop} (h1 : IsOb C x) (h : spN 1 sp [x] (fun d => ∃ n : Nat, d = .int n ∧ (n : Int) < 2 ^ 63 ∧ Q (.int n)) noE) : fLenO C sp [x] Q := by unfold fLenO; exact ⟨x, rfl, h1, h⟩
theorem cd_lenO : ClD (rLenO C (spD (spN 1 sp))) (fLenO C sp) := by
  intro B F H xs ds Q Q' w hs h kk
  unfold fLenO at h
  obtain ⟨x, rfl, h1, h⟩ := h
  obtain ⟨v, r, rfl, hv, hr⟩ := reps_cons.mp hs
  rw [reps_nil.mp hr]
  refine ⟨v, rfl, isOb_ins w hv h1, F, [x], _, _, w.again, Reps.cons hv Reps.nil, h, fun F2 H2 d v w2 hr ⟨n, e, hz, q⟩ => ?_, xok_no⟩
  subst e
  exact ⟨n, rep_int.mp hr, hz, kk F2 H2 _ _ (w.call w2) (rep_int.mpr rfl) q⟩
theorem de_lenO (G : Mg CX0 X.prog X.w X.K X.mg X.base C "__len__" k 1 sp) (hr : Room (k + 1) X.A) (hg : Gl X "len") (hm : X.mg "len" = none) (hv : bootBuiltins "len" = some (.builtin "len")) (ha : DA Z X [e] t)
    (he : starEach [e] X.env = (false, eval e X.env) :: starEach [] X.env := by rfl) (hpl : (backTo pos (starEach [] X.env)).any (·.1) = false := by rfl) : DE Z X (.Call (.Name "len" p) [e] [] pos) (dCl (fLenO C sp) t) := by
  obtain ⟨f, fd, ps, F, M, bb, hn⟩ := G.ex
  exact de_callB (call_lenO (Meth.own M) F hr bb) cd_lenO hg hm hv ha (by decide) (by decide) he hpl
/-- repr(x) by the class's own -/
@[irreducible] def fTxtO (C : Addr) (sp : DSp) (ds : List DV) (Q : DV → Prop) : Prop := ∃ x, ds = [x] ∧ IsOb C x ∧ spN 1 sp [x] (fun d => ∃ z, d = .str z ∧ Q (.str z)) noE
theorem txtO_go {x : DV} {Q : DV → Prop} (h1 : IsOb C x) (h : spN 1 sp [x] (fun d => ∃ z, d = .str z ∧ Q (.str z)) noE) : fTxtO C sp [x] Q := by unfold fTxtO; exact ⟨x, rfl, h1, h⟩
theorem cd_txtO : ClD (rTxtO C (spD (spN 1 sp))) (fTxtO C sp) := by
  intro B F H xs ds Q Q' w hs h kk
  unfold fTxtO at h
  obtain ⟨x, rfl, h1, h⟩ := h
  obtain ⟨v, r, rfl, hv, hr⟩ := reps_cons.mp hs
  rw [reps_nil.mp hr]
  refine ⟨v, rfl, isOb_ins w hv h1, F, [x], _, _, w.again, Reps.cons hv Reps.nil, h, fun F2 H2 d v w2 hr ⟨n, e, q⟩ => ?_, xok_no⟩
  subst e
  exact ⟨n, rep_str.mp hr, kk F2 H2 _ _ (w.call w2) (rep_str.mpr rfl) q⟩
theorem de_reprO (G : Mg CX0 X.prog X.w X.K X.mg X.base C "__repr__" k 1 sp) (hr : Room (k + 1) X.A) (hg : Gl X "repr") (hm : X.mg "repr" = none) (hv : bootBuiltins "repr" = some (.builtin "repr")) (ha : DA Z X [e] t)
    (he : starEach [e] X.env = (false, eval e X.env) :: starEach [] X.env := by rfl) (hpl : (backTo pos (starEach [] X.env)).any (·.1) = false := by rfl) : DE Z X (.Call (.Name "repr" p) [e] [] pos) (dCl (fTxtO C sp) t) := by
  obtain ⟨f, fd, ps, F, M, bb, hn⟩ := G.ex
  exact de_callB (call_reprO (Meth.own M) F hr bb) cd_txtO hg hm hv ha (by decide) (by decide) he hpl
theorem de_strO (G : Mg CX0 X.prog X.w X.K X.mg X.base C "__str__" k 1 sp) (hr : Room (k + 2) X.A) (hg : Gl X "str") (hm : X.mg "str" = none) (hv : bootBuiltins "str" = some (.type "str")) (ha : DA Z X [e] t)
    (he : starEach [e] X.env = (false, eval e X.env) :: starEach [] X.env := by rfl) (hpl : (backTo pos (starEach [] X.env)).any (·.1) = false := by rfl) : DE Z X (.Call (.Name "str" p) [e] [] pos) (dCl (fTxtO C sp) t) := by
  obtain ⟨f, fd, ps, F, M, bb, hn⟩ := G.ex
  exact de_callTy (call_strO (Meth.own M) F hr bb) cd_txtO hg hm hv ha (by decide) (by decide) he hpl
theorem de_clsN {x : Str} (hg : Gl X x) (hm : X.mg x = some (.ref C)) (hd : (x == ("__debug__" : Str)) = false := by decide) : DE Z X (.Name x pos) (dC (.cls C)) :=
  de_const (pe_glob (v := .ref C) hg hm rfl hd) fun _ => rep_cls.mpr rfl
structure IsiO (K : PySem.W.Frag) (C : Addr) : Prop where
  cl : Cls K C
  ha : PySem.W.findIn K (.ref C) "__class__" = some (some (.builtin "object.__class__"))
  hn : PySem.W.specialIn K (.builtin "object.__class__") "__get__" = some (some (.builtin "getset_descriptor.__get__"))
  htk : PySem.W.takesIn K (.builtin "object.__class__") = some true
  hm : PySem.W.mroIn K C (.type "object") = some true
def fIsiO (C : Addr) (ds : List DV) (Q : DV → Prop) : Prop := match ds with
  | [x, .cls D] => IsOb C x ∧ D = C ∧ Q (.bl true)
  | _ => False
theorem cd_isiO {K : PySem.W.Frag} (i : IsiO K C) : ClD (rIsi K) (fIsiO C) := by
  intro B F H xs ds Q Q' w hs h kk
  match ds, h with
  | [x, .cls D], h =>
    obtain ⟨h1, rfl, h3⟩ := h
    obtain ⟨v, r, rfl, hv, hr⟩ := reps_cons.mp hs
    obtain ⟨v2, r, rfl, hv2, hr⟩ := reps_cons.mp hr
    rw [reps_nil.mp hr, rep_cls.mp hv2]
    obtain ⟨a, dx, fs, rfl, ea⟩ := isOb_ins w hv h1
    exact ⟨_, _, _, .ref D, true, rfl, .own D, .base (.ins ea i.cl i.ha i.hn i.htk i.hm), by simp [PySem.W.kitOne], kk F H _ _ (Stp.refl w) (rep_bl.mpr rfl) h3⟩
theorem de_isiO (i : IsiO X.K C) (hg : Gl X "isinstance") (hm : X.mg "isinstance" = none) (hv : bootBuiltins "isinstance" = some (.builtin "isinstance")) (ha : DA Z X [e1, e2] t)
    (he : starEach [e1, e2] X.env = (false, eval e1 X.env) :: starEach [e2] X.env := by rfl) (hpl : (backTo pos (starEach [e2] X.env)).any (·.1) = false := by rfl) : DE Z X (.Call (.Name "isinstance" p) [e1, e2] [] pos) (dCl (fIsiO C) t) :=
  de_callB call_isi (cd_isiO i) hg hm hv ha (by decide) (by decide) he hpl
end
end DL

namespace DL
open PySem L2 PySem.Builtin PySem.Builtin.Str
def sep3 (c : Nat) : Str := ⟨#[32, c, 32]⟩
def jn (y : List Nat) : List (List Nat) → List Nat
  | [] => []
  | [x] => x
  | x :: z :: r => x ++ y ++ jn y (z :: r)
theorem join_jn (y : Str) : ∀ ws : List Str, (Str.join y ws).cps.toList = jn y.cps.toList (ws.map fun w => w.cps.toList)
  | [] => rfl
  | [x] => rfl
  | x :: z :: r => by
    show (((x.cps ++ y.cps) ++ (Str.join y (z :: r)).cps)).toList = _
    have ih := join_jn y (z :: r)
    simp only [Array.toList_append, List.map_cons, jn]
    rw [ih, List.map_cons]
end DL

namespace DL
open PySem L2
/-- the same rules, in any order -/
def sameR (r r' : Rules) : Bool := (r.length == r'.length) && r.all fun p => decide (p ∈ r')
theorem mem_getR {r : Rules} (nd : (namesR r).Nodup) {p : Str × List Str} : p ∈ r ↔ p.1 ∈ namesR r ∧ getR r p.1 = p.2 := by
  constructor
  · intro h; exact ⟨List.mem_map.mpr ⟨p, h, rfl⟩, getR_of nd h⟩
  · rintro ⟨h1, h2⟩
    have := getR_mem h1
    rw [h2] at this
    exact this
theorem lookD_no {r : Rules} {x : Str} (h : x ∉ namesR r) : lookD (keysR r) (r.map fun p => encS p.2) (.inr x) = none := by
  unfold lookD
  rw [Option.map_eq_none_iff, List.find?_eq_none]
  intro q hq
  have : q.1 ∈ keysR r := (List.of_mem_zip hq).1
  rw [keysR_names] at this
  obtain ⟨y, hy, e⟩ := List.mem_map.mp this
  simp only [decide_eq_true_eq]
  intro c
  rw [← e] at c
  cases c
  exact h hy
theorem hits_any {r' : Rules} (h' : SzOk r') : ∀ {l : Rules}, (∀ p ∈ l, OkS p.2) → HitsD (keysR r') (r'.map fun p => encS p.2) (keysR l) (l.map fun p => encS p.2) (l.all fun p => decide (p ∈ r'))
  | [], _ => rfl
  | q :: l, h => by
    show HitsD _ _ (.inr q.1 :: keysR l) (encS q.2 :: l.map fun p => encS p.2) _
    rw [List.all_cons]
    by_cases hm : q.1 ∈ namesR r'
    · have lk := look_encR hm
      have so := shaped_strs (h q List.mem_cons_self)
      have so' := shaped_strs (h'.get hm)
      refine .inr ⟨encS (getR r' q.1), _, _, l.all fun p => decide (p ∈ r'), lk, toP_encS _, toP_encS _, so, so', hits_any h' fun p hp => h p (List.mem_cons_of_mem _ hp), ?_⟩
      rw [eqv_strs]
      congr 1
      rw [decide_eq_decide, mem_getR h'.sz.2.1]
      exact ⟨fun a => a.2.symm, fun a => ⟨hm, a.symm⟩⟩
    · refine .inl ⟨lookD_no hm, ?_⟩
      have : ¬ q ∈ r' := fun c => hm (List.mem_map.mpr ⟨q, c, rfl⟩)
      rw [decide_eq_false this]; rfl
theorem eqR_go {r r' : Rules} {neg : Bool} {Q : DV → Prop} (h : SzOk r) (h' : SzOk r') (hq : Q (.bl (neg ^^ sameR r r'))) : fEqK neg (encR r) (encR r') Q := by
  unfold fEqK
  refine ⟨_, hits_any h' fun p hp => (h.ok p hp).2, ?_⟩
  rw [len_keysR, len_keysR]
  exact hq
theorem sameR_perm {r r' : Rules} (p : r.Perm r') : sameR r r' = true := by
  unfold sameR
  rw [Bool.and_eq_true, beq_iff_eq, List.all_eq_true]
  exact ⟨p.length_eq, fun q hq => decide_eq_true (p.mem_iff.mp hq)⟩
theorem sameR_refl (r : Rules) : sameR r r = true := sameR_perm (List.Perm.refl r)
theorem GrOk.szok {r : Rules} (g : GrOk r) : SzOk r := ⟨g.size, fun p hp => ⟨nameB_ok (g.nm p.1 (List.mem_map.mpr ⟨p, hp, rfl⟩)), fun x hx => nameB_ok (g.nm x ((g.parts p hp).2.2 x hx))⟩⟩
def spGrEq (C : Addr) : DSp := fun ds Q _ => ∃ r r' : Rules, ds = [grD C r, grD C r'] ∧ SzOk r ∧ SzOk r' ∧ Q (.bl (sameR r r'))
theorem isOb_gr {C : Addr} {r : Rules} : IsOb C (grD C r) := ⟨_, _, rfl⟩
theorem empty_app (x : Str) : Str.empty ++ x = x := str_ext (by show ((#[] : Array Nat) ++ x.cps).toList = _; simp)
theorem mem_jn {c : Nat} {y : List Nat} : ∀ {ws : List (List Nat)}, c ∈ jn y ws → c ∈ y ∨ ∃ w ∈ ws, c ∈ w
  | [], h => nomatch h
  | [x], h => .inr ⟨x, List.mem_cons_self, h⟩
  | x :: z :: r, h => by
    have h : c ∈ x ++ y ++ jn y (z :: r) := h
    rw [List.mem_append, List.mem_append] at h
    rcases h with (h | h) | h
    · exact .inr ⟨x, List.mem_cons_self, h⟩
    · exact .inl h
    · rcases mem_jn h with h | ⟨w, hw, h⟩
      · exact .inl h
      · exact .inr ⟨w, List.mem_cons_of_mem _ hw, h⟩
theorem mem_textS {s : List Str} {c : Nat} (h : c ∈ (textS s).cps.toList) : c = 32 ∨ ∃ x ∈ s, c ∈ x.cps.toList := by
  unfold textS at h
  rw [TL.join_eq, join_jn] at h
  rcases mem_jn h with h | ⟨w, hw, h⟩
  · left; simpa [sp_is] using h
  · obtain ⟨x, hx, rfl⟩ := List.mem_map.mp hw
    exact .inr ⟨x, hx, h⟩
section
variable {r : Rules} (g : GrOk r)
include g
end
end DL

namespace LamD
open PySem PySem.Spec PyProof.Rows L2 LamX PySem.W
abbrev fnD (q : Str) (params : Arguments) (body : Expr) (scope : Scope) (cl : List (Str × Addr)) (dV pm cdv ct : Value) : FuncData :=
  { name := "<lambda>", qualname := q, params, body := .expr body, scope, globals := mainGlobals, closure := cl, defaults := dV, kwdefaults := .none, doc := .none, pyModule := pm, annotations := none, code := cdv, closureTuple := ct, builtins := builtinsNs }
abbrev obD (q : Str) (params : Arguments) (body : Expr) (scope : Scope) (cl : List (Str × Addr)) (dV pm : Value) (c' : Addr) (ctv : Value) : Obj := { cls := .type "function", data := .func (fnD q params body scope cl dV pm (.ref c') ctv) }
section
variable {M : Model} {A : Around} {E : Value → Shared → Prop} {s : Shared} {qual : Str} {params : Arguments} {body : Expr} {scope : Scope} {env : Env} {c P : Addr} {ps : Array Value} {pos : Pos} {firstLine : Nat} {mg : Str → Option Value}
  {clos : List (Str × Addr)} {Q : Value → Shared → Prop} {dV : Value}
theorem tailD (hcl : closureFor scope env = pure clos) (hge0 : env.globals = mainGlobals) (hg : s.heap.Ns mainGlobals mg) (hcode : env.code = .ref c) (C : CodeHd s.heap c P) (hP : s.heap.get? P = some (tabObj ps)) (ht : TriplesOk ps.toList)
    (hnf : codeAmong pos ps.toList = none) (hgP : mainGlobals ≠ P) (hb : s.heap.BuiltinsAt mg P)
    (h : ∀ c' ctv h' tk, Heap.ExtBut P s.heap h' → s.heap.objs.size ≤ c' → c' < h'.objs.size → h'.CodeRec (.ref c') qual → h'.get? P = some (tabObj (ps ++ #[rawInt pos.line, rawInt pos.col, .ref c'])) →
      Q (.ref h'.objs.size) { s with heap := h'.push (obD qual params body scope clos dV ((mg "__name__").getD .none) c' ctv), toks := tk }) :
    wpAny M A (makeTail "<lambda>" qual params (.expr body) scope env dV .none none pos firstLine) Q E s := by
  obtain ⟨bm, ob, b1, b2, _, b4, b5, b6, b7, b8⟩ := hb
  unfold makeTail
  rw [hcl, hge0]
  refine wpAny_bind (wpAny_pure ?_)
  cases clos with
  | nil =>
    simp only [List.isEmpty_nil, if_true]
    refine wpAny_bind (wpAny_pure (wpAny_bind (wpAny_functionCodeX hcode (C.code hP ht) (C.tab hP) hnf fun c' h' tk hx g1 l1 _ rc tb _ => ?_)))
    have g' := hg.extBut hx hgP
    exact wpAny_bind (wpAny_builtinsFor g' b1 b2 (hx _ _ b4 b5) b6 b7 b8 (wpAny_bind (wpAny_nsGet g' (wpAny_bind (wpAny_pure (wpAny_newObj_type (h c' .none h' tk hx g1 l1 rc tb.2) (by size_fits)))))))
  | cons q r =>
    simp only [List.isEmpty_cons, Bool.false_eq_true, if_false]
    have kk := fun (oT : Obj) b o (e : s.heap.get? b = some o) => Heap.get?_push_of_some oT e
    refine wpAny_bind (wpAny_newTextTuple (wpAny_bind (wpAny_functionCodeX hcode ((C.keeps (kk _)).code (kk _ _ _ hP) ht) ((C.keeps (kk _)).tab (kk _ _ _ hP)) hnf fun c' h' tk hx g1 l1 _ rc tb _ => ?_)))
    have g' := (hg.push _).extBut hx hgP
    have hx' : Heap.ExtBut P s.heap h' := fun b o hb' e => hx b o hb' (kk _ _ _ e)
    have g2 : s.heap.objs.size ≤ c' := Nat.le_trans (by rw [Heap.size_push]; omega) g1
    exact wpAny_bind (wpAny_builtinsFor g' b1 b2 (hx' _ _ b4 b5) b6 b7 b8 (wpAny_bind (wpAny_nsGet g' (wpAny_bind (wpAny_pure (wpAny_newObj_type (h c' _ h' tk hx' g2 l1 rc tb.2) (by size_fits)))))))
theorem tailHitD {cv : Value} (hcl : closureFor scope env = pure clos) (hge0 : env.globals = mainGlobals) (hg : s.heap.Ns mainGlobals mg) (hcode : env.code = .ref c) (C : CodeHd s.heap c P) (hP : s.heap.get? P = some (tabObj ps)) (ht : TriplesOk ps.toList)
    (hf : codeAmong pos ps.toList = some cv) (hb : s.heap.BuiltinsAt mg P)
    (h : ∀ (ctv : Value) (h' : Heap) (tk : Tok), (∀ b o, s.heap.get? b = some o → h'.get? b = some o) → s.heap.objs.size ≤ h'.objs.size →
      Q (.ref h'.objs.size) { s with heap := h'.push { cls := .type "function", data := .func (fnD qual params body scope clos dV ((mg "__name__").getD .none) cv ctv) }, toks := tk }) :
    wpAny M A (makeTail "<lambda>" qual params (.expr body) scope env dV .none none pos firstLine) Q E s := by
  obtain ⟨bm, ob, b1, b2, _, b4, b5, b6, b7, b8⟩ := hb
  unfold makeTail
  rw [hcl, hge0]
  refine wpAny_bind (wpAny_pure ?_)
  cases clos with
  | nil =>
    simp only [List.isEmpty_nil, if_true]
    exact wpAny_bind (wpAny_pure (wpAny_bind (wpAny_functionCode_hit hcode (C.code hP ht) hf (wpAny_bind (wpAny_builtinsFor hg b1 b2 b5 b6 b7 b8 (wpAny_bind (wpAny_nsGet hg (wpAny_bind (wpAny_pure (wpAny_newObj_type (h .none s.heap s.toks (fun _ _ e => e) (Nat.le_refl _)) (by size_fits)))))))))))
  | cons q r =>
    simp only [List.isEmpty_cons, Bool.false_eq_true, if_false]
    have kk := fun (oT : Obj) b o (e : s.heap.get? b = some o) => Heap.get?_push_of_some oT e
    have z : ∀ oT : Obj, s.heap.objs.size ≤ (s.heap.push oT).objs.size := fun oT => by rw [Heap.size_push]; omega
    exact wpAny_bind (wpAny_newTextTuple (wpAny_bind (wpAny_functionCode_hit hcode ((C.keeps (kk _)).code (kk _ _ _ hP) ht) hf (wpAny_bind (wpAny_builtinsFor (hg.push _) b1 b2 (kk _ _ _ b5) b6 b7 b8 (wpAny_bind (wpAny_nsGet (hg.push _) (wpAny_bind (wpAny_pure (wpAny_newObj_type (h _ _ s.toks (kk _) (z _)) (by size_fits)))))))))))
end
/-- the default stands in a tuple -/
def dfo (v : Value) : Obj := { cls := .type "tuple", data := .seq #[v] }
section
variable {X : Cx} {pins : List (Addr × Obj)} {σ : L2.St} {H : Hp} {s : Shared}
/-- the function object is made: its code object is new, or told by the table -/
theorem codeD {T : List (Addr × Str)} {c P : Addr} {params : Arguments} {body : Expr} {scope : Scope} {pos : Pos} {dV : Value} {Q : Value → Shared → Prop} {E : Value → Shared → Prop} (I : Inv X pins σ H s) (TB : TabB X.base X.mg c P) (hcode : X.env.code = .ref c)
    (hm : (P, X.env.qual ++ "<lambda>") ∈ T) (hu : ∀ p ∈ T, p.1 = P → p.2 = X.env.qual ++ "<lambda>") (hT : Tabs T H) (hfree : ∀ y ∈ scope.names, y.2 = .free → ∃ c, X.env.cells.lookup y.1 = some c)
    (h : ∀ (f c' : Addr) (pm ctv : Value) (H1 : Hp) (s' : Shared), Inv X pins σ H1 s' → ExtN H H1 → Tabs T H1 → (∀ b o, H b = none → s.heap.get? b = some o → H1 b = none ∧ s'.heap.get? b = some o) →
      s'.heap.get? f = some (obD (X.env.qual ++ "<lambda>") params body scope (cloFrom X.env.cells scope.names []) dV pm c' ctv) → H1 f = none → f ∉ frs X.stack → H1 c' = some (CodeO c' (X.env.qual ++ "<lambda>")) → Q (.ref f) s') :
    wpAny (model X.prog X.w) X.A (makeTail "<lambda>" (X.env.qual ++ "<lambda>") params (.expr body) scope X.env dV .none none pos pos.line) Q E s := by
  obtain ⟨ps, hP, ht, ha⟩ := hT _ hm
  have bP : s.heap.BuiltinsAt X.mg P := TB.bm.keeps I.bk
  have hP' : s.heap.get? P = some { cls := .none, data := .fields ps } := I.hok P _ hP
  have nofr : ∀ f, s.heap.objs.size ≤ f → f ∉ frs X.stack := fun f hf z => by
    rcases List.mem_cons.mp (I.stkSub _ z) with e | e
    · have h1 := I.lt
      rw [← e] at h1
      exact absurd (Nat.lt_of_lt_of_le h1 hf) (Nat.lt_irrefl _)
    · exact I.nofs hf e
  cases hc : codeAmong pos ps.toList with
  | none =>
    refine tailD (mg := X.mg) (c := c) (P := P) (ps := ps) (closure_ok hfree) I.ok.glob (I.mod.glob.keeps I.bk) hcode (TB.code.keeps I.bk) hP' ht hc TB.gP bP fun c' ctv h' tk hx hge hlt hrec htb => ?_
    obtain ⟨c2, oc, vs, t, e2, hoc, hd, hv⟩ := hrec
    cases e2
    have hsz : s.heap.objs.size ≤ h'.objs.size := Nat.le_trans hge (Nat.le_of_lt hlt)
    have nC : H c' = none := I.hok.fresh hge
    have I1 := inv_table (t' := tk) (more := #[rawInt pos.line, rawInt pos.col, .ref c']) (h' := h'.push (obD (X.env.qual ++ "<lambda>") params body scope (cloFrom X.env.cells scope.names []) dV ((X.mg "__name__").getD .none) c' ctv)) I hP
      (fun b o hb e => Heap.get?_push_of_some _ (hx b o hb e)) (Heap.get?_push_of_some _ htb) hge ⟨oc, vs, t, Heap.get?_push_of_some _ hoc, hd, hv⟩
    have hE : ExtN H (upd (upd H P (.tbl (ps ++ #[rawInt pos.line, rawInt pos.col, .ref c']))) c' (CodeO c' (X.env.qual ++ "<lambda>"))) := fun b o e n => by
      rw [upd_ne (ne_of_none e nC), upd_ne (fun z => n ps (Option.some.inj (e.symm.trans (by rw [z]; exact hP))))]
      exact e
    have eL : (ps ++ #[rawInt pos.line, rawInt pos.col, .ref c']).toList = ps.toList ++ [rawInt pos.line, rawInt pos.col, .ref c'] := by simp
    refine h h'.objs.size c' ((X.mg "__name__").getD .none) ctv _ _ I1 hE (fun p hp => ?_) (fun b o hn e => ?_) (Heap.get?_push_size _ rfl) ?_ (nofr _ hsz) upd_same
    · by_cases hb : p.1 = P
      · rw [hu p hp hb, hb]
        refine ⟨_, by rw [upd_ne (ne_of_none hP nC), upd_same], by rw [eL]; exact PySem.TriplesOk_snoc _ _ _ _ ht, fun p' cv hcv => ?_⟩
        rw [eL] at hcv
        rcases among_app _ ht hcv with z | z
        · obtain ⟨c0, e1, e2⟩ := ha p' cv z
          exact ⟨c0, e1, hE _ _ e2 codeO_ne⟩
        · exact ⟨c', z, upd_same⟩
      · obtain ⟨ps', a1, a2, a3⟩ := hT p hp
        refine ⟨ps', by rw [upd_ne (ne_of_none a1 nC), upd_ne hb]; exact a1, a2, fun p' cv hcv => ?_⟩
        obtain ⟨c0, e1, e2⟩ := a3 p' cv hcv
        exact ⟨c0, e1, hE _ _ e2 codeO_ne⟩
    · have n1 : b ≠ c' := Nat.ne_of_lt (Nat.lt_of_lt_of_le (Heap.lt_size e) hge)
      have n2 : b ≠ P := fun z => by rw [z, hP] at hn; cases hn
      exact ⟨by rw [upd_ne n1, upd_ne n2]; exact hn, Heap.get?_push_of_some _ (hx b o n2 e)⟩
    · have n1 : h'.objs.size ≠ c' := Nat.ne_of_gt hlt
      have n2 : h'.objs.size ≠ P := Nat.ne_of_gt (Nat.lt_of_lt_of_le (Heap.lt_size hP') hsz)
      rw [upd_ne n1, upd_ne n2]
      exact I.hok.fresh hsz
  | some cv =>
    obtain ⟨c', e, hco⟩ := ha pos cv hc
    subst e
    refine tailHitD (mg := X.mg) (c := c) (P := P) (ps := ps) (closure_ok hfree) I.ok.glob (I.mod.glob.keeps I.bk) hcode (TB.code.keeps I.bk) hP' ht hc bP fun ctv h' tk hx hsz => ?_
    have I1 : Inv X pins σ H { s with heap := h'.push (obD (X.env.qual ++ "<lambda>") params body scope (cloFrom X.env.cells scope.names []) dV ((X.mg "__name__").getD .none) c' ctv), toks := tk } := I.kept fun b o e => Heap.get?_push_of_some _ (hx b o e)
    exact h h'.objs.size c' ((X.mg "__name__").getD .none) ctv H _ I1 (ExtN.refl H) hT (fun b o hn e => ⟨hn, Heap.get?_push_of_some _ (hx b o e)⟩) (Heap.get?_push_size _ rfl) (I.hok.fresh hsz) (nofr _ hsz) hco
theorem makeD {T : List (Addr × Str)} {c P : Addr} {params : Arguments} {body : Expr} {scope : Scope} {pos p0 : Pos} {i : Int} {j : Nat} {Q : Value → Shared → Prop} (I : Inv X pins σ H s) (TB : TabB X.base X.mg c P) (hcode : X.env.code = .ref c)
    (hm : (P, X.env.qual ++ "<lambda>") ∈ T) (hu : ∀ p ∈ T, p.1 = P → p.2 = X.env.qual ++ "<lambda>") (hT : Tabs T H) (hdef : defaultsOf params X.env = ([eval (.Constant (.int i) j p0) X.env], [])) (hfree : ∀ y ∈ scope.names, y.2 = .free → ∃ c, X.env.cells.lookup y.1 = some c)
    (h : ∀ (f c' T0 : Addr) (pm ctv v : Value) (H1 : Hp) (s' : Shared), Inv X pins σ H1 s' → ExtN H H1 → Tabs T H1 →
      s'.heap.get? f = some (obD (X.env.qual ++ "<lambda>") params body scope (cloFrom X.env.cells scope.names []) (.ref T0) pm c' ctv) → H1 f = none → f ∉ frs X.stack → s'.heap.get? T0 = some (dfo v) → H1 T0 = none → T0 ∉ frs X.stack → H1 c' = some (CodeO c' (X.env.qual ++ "<lambda>")) → Q (.ref f) s') :
    wpAny (model X.prog X.w) X.A (eval (.Lambda params body scope pos) X.env) Q X.xe s := by
  rw [arm_eval_Lambda, hdef]
  show wpAny _ _ (do let dv ← evalAll [eval (.Constant (.int i) j p0) X.env]; let kdv ← holding dv (evalAllOpt []); makeFunction "<lambda>" (X.env.qual ++ "<lambda>") params (.expr body) scope X.env dv kdv [] pos pos.line) Q X.xe s
  refine wpAny_bind ?_
  unfold evalAll
  refine wpAny_bind (thn ((pe_int (pos := p0) (j := j) (i := i)).run pins s σ H (fun v H1 => v = .int i ∧ H1 = H) I ⟨rfl, rfl⟩) fun u s1 ⟨v, H1, I1, r1, e1, e2⟩ => ?_)
  subst e2
  refine wpAny_bind (wpAny_holding (wpAny_pure (wpAny_pure (wpAny_bind (wpAny_holding (wpAny_pure ?_))))))
  rw [makeFunction_eq]
  simp only [List.zip_nil_right, List.filterMap_nil, List.isEmpty_cons, List.isEmpty_nil, if_true, Bool.false_eq_true, if_false, pure_bind]
  refine wpAny_bind (wpAny_newTextTuple ?_)
  have I2 : Inv X pins σ H1 { s1 with heap := s1.heap.push (dfo u) } := I1.kept (t' := s1.toks) fun b o e => Heap.get?_push_of_some _ e
  have n0 : H1 s1.heap.objs.size = none := I1.hok.fresh (Nat.le_refl _)
  have f0 : s1.heap.objs.size ∉ frs X.stack := fun z => by
    rcases List.mem_cons.mp (I1.stkSub _ z) with e | e
    · have h1 := I1.lt
      rw [← e] at h1
      exact absurd h1 (Nat.lt_irrefl _)
    · exact I1.nofs (Nat.le_refl _) e
  refine codeD I2 TB hcode hm hu hT hfree fun f c' pm ctv H2 s' I3 eN T1 kp hf hfn hfr hco => ?_
  obtain ⟨a1, a2⟩ := kp s1.heap.objs.size (dfo u) n0 (Heap.get?_push_size _ rfl)
  exact h f c' s1.heap.objs.size pm ctv u H2 s' I3 eN T1 hf hfn hfr a2 a1 f0 hco
end
/-- one parameter a0 of its own, else captured names and globals -/
structure LamSD (sc scope : Scope) (a0 : Str) : Prop where
  kind : scope.kind = .function
  co : scope.isCoroutine = false
  gen : scope.isGenerator = false
  cell : ∀ y ∈ scope.names, y.2 ≠ .cell
  loc : ∀ y ∈ scope.names, y.2 = .local → y.1 = a0
  at_ : scope.names.lookup a0 = some .local
  free : ∀ y ∈ scope.names, y.2 = .free → sc.names.lookup y.1 = some .cell ∨ sc.names.lookup y.1 = some .free
def lamSDB (sc scope : Scope) (a0 : Str) : Bool :=
  decide (scope.kind = .function) && !scope.isCoroutine && !scope.isGenerator && decide (scope.names.lookup a0 = some .local) && scope.names.all fun y => !decide (y.2 = .cell) && (!decide (y.2 = .local) || decide (y.1 = a0)) && (!decide (y.2 = .free) || decide (sc.names.lookup y.1 = some .cell) || decide (sc.names.lookup y.1 = some .free))
theorem lamSD_by {sc scope : Scope} {a0 : Str} (h : lamSDB sc scope a0 = true) : LamSD sc scope a0 := by
  unfold lamSDB at h
  simp only [Bool.and_eq_true, Bool.or_eq_true, Bool.not_eq_true', decide_eq_true_eq, decide_eq_false_iff_not, List.all_eq_true] at h
  obtain ⟨⟨⟨⟨h1, h2⟩, h3⟩, h4⟩, h5⟩ := h
  refine ⟨h1, h2, h3, fun y hy => (h5 y hy).1.1, fun y hy e => ?_, h4, fun y hy e => ?_⟩
  · rcases (h5 y hy).1.2 with z | z
    · exact absurd e z
    · exact z
  · rcases (h5 y hy).2 with (z | z) | z
    · exact absurd e z
    · exact .inl z
    · exact .inr z
theorem LamSD.has {X : Cx} {scope : Scope} {a0 : Str} (L : LamSD X.env.scope scope a0) (ok : X.Ok) : ∀ y ∈ scope.names, y.2 = .free → ∃ c, X.env.cells.lookup y.1 = some c := fun y hy e => (L.free y hy e).elim (fun k => ok.has _ (.inl k)) fun k => ok.has _ (.inr k)
section
variable {X : Cx} {pins : List (Addr × Obj)} {σ : L2.St} {H HZ : Hp} {s s1 : Shared}
theorem startD {A : Around} {outer : List Env} {E : XK} {scope : Scope} {a0 : Str} {f c' : Addr} {h₁ : Heap} {tk : Nat} {m0 : Str → Option Value} (I : Inv X pins σ H s) (L : LamSD X.env.scope scope a0) (hN : a0 ∉ X.N) (e0 : Env0 X.prog X.w X.K X.mg X.base A outer s1 HZ) (hd : A.handled = none)
    (un : Un (frs X.stack) [] H HZ s.heap s1.heap) (hns : h₁.Ns s1.heap.objs.size m0) (kp : ∀ b o, s1.heap.get? b = some o → h₁.get? b = some o) :
    Inv (lamCx X A outer s1 HZ E scope f c') [] σ HZ { s1 with heap := h₁, toks := tk } := by
  have hfree := L.has I.ok
  have cm : ∀ {y c}, (cloFrom X.env.cells scope.names []).lookup y = some c → X.env.cells.lookup y = some c := fun {y c} e => by
    rcases cloFrom_mem (PySem.mem_of_lookup e) with hm | ⟨h1, h2⟩
    · cases hm
    · obtain ⟨c1, hc⟩ := hfree _ h1 rfl
      have hc : X.env.cells.lookup y = some c1 := hc
      have e2 : c = c1 := by
        rw [h2, hc] <;> rfl
      rw [e2]; exact hc
  have look : ∀ {y}, scope.names.lookup y = some .free → ∃ c, (cloFrom X.env.cells scope.names []).lookup y = some c := fun {y} hl =>
    mem_lookup (cloFrom_has (cells := X.env.cells) (acc := []) (PySem.mem_of_lookup hl))
  have cellK : ∀ {c : Addr} {v : Option Value}, H c = none → s.heap.IsCell c v → h₁.IsCell c v := fun {c v} n ⟨o, ho, hd⟩ => by
    obtain ⟨sl, q⟩ := un.any ho n (by simp)
    exact ⟨_, kp _ _ q, hd⟩
  have noA : ∀ b : Addr, b ∉ (lamCx X A outer s1 HZ E scope f c').ex := fun b z => absurd (show b ∈ ([] : List Addr) from z) (by simp)
  refine ⟨⟨e0.mod, L.kind, rfl, rfl, Nat.le_refl _, fun y z c e1 e2 => I.ok.inj y z c (cm e1) (cm e2), fun y hy => ?_, fun y c z _ => ?_, fun _ => hd, Around.frames_deeper e0.frames, .inr ⟨rfl, rfl⟩, fun b z => absurd z (noA b), e0.bs, e0.bsz, fun b _ _ => noA b,
      fun b z => absurd z (noA b), e0.funs, e0.frf⟩,
    rfl, e0.bare, Un.kept kp, ⟨_, hns, fun i y v e1 e2 e3 => ?_⟩, fun y c e => ?_, e0.hok.fresh (Nat.le_refl _), fun y c e => ?_, fun q hq => absurd (show q ∈ ([] : List (Addr × Obj)) ++ [] from hq) (by simp), e0.hok.kept kp, I.len⟩
  · rcases (show scope.names.lookup y = some .cell ∨ scope.names.lookup y = some .free from hy) with hy | hy
    · exact absurd rfl (L.cell _ (PySem.mem_of_lookup hy))
    · exact look hy
  · have z : false = true := z
    cases z
  · rcases (show Vis scope y from e3) with k | k | k
    · have : y = a0 := L.loc _ (PySem.mem_of_lookup k) rfl
      subst this
      exact absurd (List.mem_of_getElem? e1) hN
    · exact absurd rfl (L.cell _ (PySem.mem_of_lookup k))
    · obtain ⟨m, hn, hl⟩ := I.loc
      have hvis : Vis X.env.scope y := (L.free _ (PySem.mem_of_lookup k) rfl).elim (fun k => .inr (.inl k)) (fun k => .inr (.inr k))
      obtain ⟨w', r, q⟩ := hl i y v e1 e2 hvis
      obtain ⟨c2, h2⟩ := look k
      refine ⟨w', r, .inr ⟨.inr k, c2, h2, ?_⟩⟩
      have c1 := cm h2
      rcases q with ⟨k', _⟩ | ⟨_, c3, e', z⟩
      · have k' : X.env.scope.names.lookup y = some .local := k'
        rcases L.free _ (PySem.mem_of_lookup k) rfl with k2 | k2 <;> rw [show X.env.scope.names.lookup y = _ from k2] at k' <;> cases k'
      · rw [c1] at e'
        cases e'
        exact cellK (I.freeC y _ c1) z
  · obtain ⟨w', z⟩ := I.cell y c (cm e)
    exact ⟨w', cellK (I.freeC y c (cm e)) z⟩
  · obtain ⟨v, o, ho, hd⟩ := I.cell y c (cm e)
    exact un.free c o ho (I.freeC y c (cm e)) (by simp)
/-- what binding asks: the defaults' tuple is read -/
def BindD (params : Arguments) (body : Expr) (scope : Scope) (a0 : Str) : Prop := ∀ (q : Str) (cl : List (Str × Addr)) (pm cv ctv : Value) (T0 : Addr), ∃ k : Option (Array Value) → Sem (List (Str × Value)), bindArgs (fnD q params body scope cl (.ref T0) pm cv ctv) ⟨[], []⟩ = seqItems? (.ref T0) >>= k ∧ ∀ v, k (some #[v]) = pure [(a0, v)]
theorem actD {CXg : CXT} {Eg : XK} {Ng : List Str} {qg : Str} {sg : Scope} {g f c' T0 : Addr} {cdg pm ctv v0 : Value} {params : Arguments} {body : Expr} {scope : Scope} {a0 : Str} {k i : Nat} {a : Str} {pn : List (Addr × Obj)} {xe : Value → Shared → Prop} {W : WX} {E : XK} {tb : TE} {p1 p2 : Pos}
    (I : Inv X pins σ H s) (L : LamSD X.env.scope scope a0) (hNa : a0 ∉ X.N) (hf : s.heap.get? f = some (obD (X.env.qual ++ "<lambda>") params body scope (cloFrom X.env.cells scope.names []) (.ref T0) pm c' ctv)) (hfn : H f = none) (hfr : f ∉ frs X.stack)
    (hT : s.heap.get? T0 = some (dfo v0)) (hTn : H T0 = none) (hTr : T0 ∉ frs X.stack) (hbind : BindD params body scope a0)
    (tk : Takes ((cxOf CXg X.prog X.w X.K X.mg X.base Ng qg sg g cdg X.A X.stack s H Eg).tr pn xe) W) (hW : ∀ cls d σ' H', E cls d H' → W cls d σ' H') (hr : Room (k + 1) (X.A.deeper (envOfC qg sg s.heap.objs.size g cdg)))
    (hbody : ∀ (A : Around) (outer : List Env) (s : Shared) (H : Hp), Room k (A.deeper (lamEnv X scope s.heap.objs.size f c')) → PE (lamCx X A outer s H E scope f c') body tb)
    (hN : Ng[i]? = some a) (hv : Vis sg a) (hd : (a == ("__debug__" : Str)) = false := by decide) (hcd : (a == ("__classdict__" : Str)) = false := by decide) :
    PE ((cxOf CXg X.prog X.w X.K X.mg X.base Ng qg sg g cdg X.A X.stack s H Eg).tr pn xe) (.Call (.Name a p1) [] [] p2)
      (fun σZ HZ Q => σZ[i]? = some (some (.ref f)) ∧ HZ c' = some (CodeO c' (X.env.qual ++ "<lambda>")) ∧ tb σ HZ Q) := by
  refine ⟨fun pinsZ sZ σZ HZ Q IZ h => ?_⟩
  obtain ⟨hs, hc, ht⟩ := h
  refine wpAny_Call_Name_kw (thn ((pe_var (pos := p1) (i := i) hN hv hd hcd).run pinsZ sZ σZ HZ (fun v H1 => v = .ref f ∧ H1 = HZ) IZ ⟨.ref f, hs, rfl, rfl⟩) fun u s1 ⟨v, H1, I1, r1, ev, eH⟩ => ?_)
  subst ev
  rw [eH] at I1
  obtain rfl : u = Value.ref f := r1
  have no : ∀ b : Addr, b ∉ ([] : List Addr) := fun b z => nomatch z
  have of1 := I1.base.keep f _ hf hfn hfr (no f)
  have oT1 : s1.heap.get? T0 = some (dfo v0) := I1.base.keep T0 _ hT hTn hTr (no T0)
  refine PySem.W.callWith_F0 ⟨_, _, _, _, of1⟩ ?_
  have un : Un (frs X.stack) [] H HZ s.heap s1.heap := I1.base
  obtain ⟨⟨oc, vs, t, hoc, hdc, hvc⟩, _, _⟩ := I1.hok c' _ hc
  have rc : codeAny (model X.prog X.w) (X.A.deeper (envOfC qg sg s.heap.objs.size g cdg)) (.call (.ref f) ⟨[], []⟩) (CR (L2.CX X.prog X.w) (envOfC qg sg s.heap.objs.size g cdg :: X.stack) X.prog X.w HZ s1 Q E) s1 := by
    refine PySem.W.kla_callFunE hr.depth of1 rfl L.co L.gen rfl ⟨c', oc, vs, t, rfl, hoc, hdc, hvc⟩ ?_
    obtain ⟨kb, e1, e2⟩ := hbind (X.env.qual ++ "<lambda>") (cloFrom X.env.cells scope.names []) pm (.ref c') ctv T0
    rw [e1]
    refine wpAny_bind (wpAny_seqItems oT1 rfl ?_)
    rw [e2]
    refine wpAny_pure (wpAny_newFunctionEnv (fun y hy => L.cell y hy) (fun y hy => by rw [List.mem_singleton.mp hy]; exact L.at_) (fun h₁ hns hsb => ⟨I1.nolimit.fresh _ hsb, ?_⟩) L.kind)
    show codeAny _ _ (.expr body (lamEnv X scope s1.heap.objs.size f c')) _ _
    have kp : ∀ b o, s1.heap.get? b = some o → h₁.get? b = some o := fun b o e => hsb.extBut b o (Nat.ne_of_lt (Heap.lt_size e)) (Heap.get?_push_of_some _ e)
    have J : Inv (lamCx X (X.A.deeper (envOfC qg sg s.heap.objs.size g cdg)) (envOfC qg sg s.heap.objs.size g cdg :: X.stack) s1 HZ E scope f c') [] σ HZ { s1 with heap := h₁, toks := s1.toks + [(a0, v0)].length } :=
      startD I L hNa I1.env0 hr.hd un hns kp
    refine PySem.W.kla_codeExpr (wpAny_mono ((hbody _ _ s1 HZ (hr.deeper _)).run [] _ _ HZ Q J ht) (fun v s' hq => ?_) fun e s' hq => hq)
    obtain ⟨w', H', J', rv, q⟩ := hq
    exact ⟨w', H', J'.os, J'.bare, J'.base, J'.hok, rv, q⟩
  have hx : Passes (L2.CX X.prog X.w) ((cxOf CXg X.prog X.w X.K X.mg X.base Ng qg sg g cdg X.A X.stack s H Eg).tr pn xe) E := passes_call tk hW
  refine wpAny_call (codeAny_mono rc fun r s' hq => ?_)
  match r, hq with
  | .error e, hq => exact hx pinsZ σZ HZ s1 e s' I1 hq
  | .ok (.ret u), hq => exact I1.after hq
  | .ok .next, hq => exact hq.elim
  | .ok .brk, hq => exact hq.elim
  | .ok .cont, hq => exact hq.elim
end
section
variable {X : Cx}
theorem callD {T : List (Addr × Str)} {TT : (XK → Hp → VK → Prop) → Hp → VK → Prop} {x a a0 : Str} {g c P : Addr} {k : Nat} {pg : Arguments} {bg : List Stmt} {sg : Scope} {dV kV doc pm cdv ct oc : Value} {an od : Option Addr} {osl : Array (Option Value)} {Ng : List Str}
    {params : Arguments} {body : Expr} {scope : Scope} {t : XK → TE} {p lpos pos p0 : Pos} {i : Int} {j : Nat} (hg : Gl X x) (hm : X.mg x = some (.ref g)) (hk : PySem.W.keepIn X.K (.ref g) = true)
    (lk : X.K.lookup g = some ⟨oc, od, .func (PySem.W.fnOf x x pg bg sg dV kV doc pm an cdv ct), osl⟩) (hcg : PySem.W.codeIn X.K cdv x = true) (hb : L2.Binds X.K (PySem.W.fnOf x x pg bg sg dV kV doc pm an cdv ct) [a] []) (Sg : FnScope Ng [a] sg) (hNg : Ng[0]? = some a) (hva : Vis sg a)
    (hG : GivesTo X Ng x sg g cdv bg a (X.env.qual ++ "<lambda>") TT)
    (TB : TabB X.base X.mg c P) (hcode : X.env.code = .ref c) (hmT : (P, X.env.qual ++ "<lambda>") ∈ T) (hu : ∀ p ∈ T, p.1 = P → p.2 = X.env.qual ++ "<lambda>") (hr : Room (k + 2) X.A) (L : LamSD X.env.scope scope a0) (hNa : a0 ∉ X.N) (hdef : defaultsOf params X.env = ([eval (.Constant (.int i) j p0) X.env], []))
    (hbind : BindD params body scope a0)
    (hbody : ∀ (A : Around) (outer : List Env) (s : Shared) (H : Hp) (E : XK) (f c' : Addr), Room k (A.deeper (lamEnv X scope s.heap.objs.size f c')) → PE (lamCx X A outer s H E scope f c') body (t E))
    (hdb : (x == ("__debug__" : Str)) = false := by decide) (hd : (a == ("__debug__" : Str)) = false := by decide) (hcd : (a == ("__classdict__" : Str)) = false := by decide) :
    PE X (.Call (.Name x p) [.Lambda params body scope lpos] [] pos) (tLam T TT t) := by
  refine ⟨fun pins s σ H Q I h => ?_⟩
  obtain ⟨hT, h⟩ := h
  refine wpAny_Call_Name_kw (ld_glob I hg hm ?_ hdb)
  refine PySem.W.callWith_K (h₀ := X.base) I.ok.mod.kin hk ?_ (by rfl) (by rfl)
  show wpAny _ _ (spliced ((false, eval (.Lambda params body scope lpos) X.env) :: backTo pos (starEach [] X.env))) _ _ s
  refine Calls.spliced_cons (makeD I TB hcode hmT hu hT hdef (L.has I.ok) fun f c' T0 pm' ctv v0 H1 s' I1 eN T1 hf hfn hfr h1 h2 h3 hco => ?_)
  refine Calls.spliced_nil ⟨I1.kIn, ?_⟩
  have rc : codeAny (model X.prog X.w) X.A (.call (.ref g) ⟨[.ref f], []⟩) (CR C8.CX0 X.stack X.prog X.w H1 s' Q C8.E0) s' := by
    refine run_ofS (N := Ng) (ps := [a]) (us := [.ref f]) (vs := [.ref f]) lk hcg Sg hr I1.env0 (hb s' [.ref f] I1.kIn rfl) (.cons rfl .nil) rfl fun hr' => ?_
    obtain ⟨t', ht', hq'⟩ := hG f c' s' H1 Q (fun E H' Q' => t E σ H' Q') (fun W pn xe E p1 p2 tk hW => actD (i := 0) I1 L hNa hf hfn hfr h1 h2 h3 hbind tk hW hr' (fun A outer s H hr2 => hbody A outer s H E f c' hr2) hNg hva hd hcd) hco (h H1 eN T1)
    exact ⟨t', ht'.nox, hq'⟩
  refine wpAny_call (codeAny_mono rc fun r s2 hq => ?_)
  match r, hq with
  | .error e, hq => exact (show False from hq).elim
  | .ok (.ret u), hq => exact I1.after hq
  | .ok .next, hq => exact hq.elim
  | .ok .brk, hq => exact hq.elim
  | .ok .cont, hq => exact hq.elim
end
end LamD
namespace DL
open PySem L2 LamX EL
section
variable {Z : Zx} {X : Cx} {c P : Addr} {p lpos pos p0 : Pos} {params : Arguments} {body : Expr} {scope : Scope} {l : List (List Value × EK)} {k : Nat} {b : WD → AE}
/-- from the heap's reading of x(lambda ..) to the one over data -/
theorem de_try_of {T : List (Addr × Str)} {K0 : PySem.W.Frag} {e : Expr} (vs : List Nat) (hT : TbOk T Z.F)
    (hp : PE X e (tLam T (TTry K0 l) fun E σ H Q => ∃ (F0 : Wo) (H0 : Hp) (w' : WD) (lk : Lk F0 H0 (fun cls d _ H => E cls d H) w'), tD ⟨F0, H0, fun cls d _ H => E cls d H, w', lk⟩ (b w') σ H Q)) : DE Z X e (dTry K0 l vs b) := by
  refine ⟨pe_imp hp fun σ H Q h => ?_⟩
  obtain ⟨Lo, F, ρ, Q', w, r, q, kk⟩ := h
  obtain ⟨Fa, wa, xa, ra⟩ := RSt.frzD (vs := vs) w r
  refine ⟨wa.tabs hT, fun H1 eN T1 => ?_⟩
  have s1 := wa.grown hT eN T1
  generalize hF1 : Fa.told _ H1 = F1 at s1
  have w1 := s1.wd
  have r1 := s1.st _ _ ra
  have x1 := xa.trans s1.ext
  have lz : (2 : Nat) ≤ sizeLine := by rw [sizeLine_eq]; decide
  refine ⟨F1, H1, fun C ns ds _ => TryAns K0 l (fun d => Q' d (frzD vs ρ)) C ns ds, ?_, fun _ => none, F1, valsD (frzD vs ρ), _, w1.again, r1.vals, q, fun F2 H2 ρ2 d v w2 x2 r2 hr2 q2 => ⟨lz, fun p hp => ?_⟩⟩
  · intro L' F2 H2 ρ2 σ2 C dd fs ds w2 _ hf hs ⟨ek, wv, tc, hw, ha⟩
    have s2 := w1.call w2.noL
    have hdd : H2 dd = some (.xd fs) := by
      rcases s2.wd.fz dd _ hf with y | ⟨⟨_, y⟩, _⟩
      · exact y
      · cases y
    obtain ⟨v, hv, rv⟩ := lookF_val hs hw
    refine ⟨C, dd, fs, v, ek, rfl, rfl, hdd, tc.xf, ⟨tc.wd, hv⟩, tc.pk, ?_⟩
    cases ek with
    | one f =>
      obtain ⟨u, hu, q3⟩ := ha
      obtain ⟨uv, huv, ru⟩ := lookF_val hs hu
      refine ⟨uv, ⟨tc.fl, huv⟩, fun p hp => ?_⟩
      obtain ⟨s3, r3⟩ := Stp.tupN s2.wd hp (Reps.cons rv (Reps.cons ru Reps.nil))
      exact kk _ _ _ _ _ s3.wd (x1.trans (s2.ext.trans s3.ext)) (s3.st _ _ (s2.st _ _ r1)) r3 q3
    | two f g =>
      obtain ⟨u, u2, hu, hu2, q3⟩ := ha
      obtain ⟨uv, huv, ru⟩ := lookF_val hs hu
      obtain ⟨uv2, huv2, ru2⟩ := lookF_val hs hu2
      refine ⟨uv, uv2, ⟨tc.fl.1, huv⟩, ⟨tc.fl.2, huv2⟩, fun p1 hp1 p hp => ?_⟩
      obtain ⟨s3, r3⟩ := Stp.tupN s2.wd hp1 (Reps.cons ru (Reps.cons ru2 Reps.nil))
      obtain ⟨s4, r4⟩ := Stp.tupN s3.wd hp (Reps.cons (rv.mono s3.ext) (Reps.cons r3 Reps.nil))
      exact kk _ _ _ _ _ s4.wd (x1.trans (s2.ext.trans (s3.ext.trans s4.ext))) (s4.st _ _ (s3.st _ _ (s2.st _ _ r1))) r4 q3
    | zero =>
      intro p hp
      obtain ⟨s3, r3⟩ := Stp.tupN s2.wd hp (Reps.cons rv (Reps.cons (rep_non.mpr rfl) Reps.nil))
      exact kk _ _ _ _ _ s3.wd (x1.trans (s2.ext.trans s3.ext)) (s3.st _ _ (s2.st _ _ r1)) r3 ha
  · have s2 := w1.call w2
    obtain ⟨s3, r3⟩ := Stp.tupN s2.wd hp (Reps.cons (rep_str.mpr rfl) (Reps.cons hr2 Reps.nil))
    exact kk _ _ _ _ _ s3.wd (x1.trans (s2.ext.trans s3.ext)) (s3.st _ _ (s2.st _ _ r1)) r3 q2
theorem de_tryTD {T : List (Addr × Str)} {P0 : Program} {w0 : World} {K0 : PySem.W.Frag} {mg0 : Str → Option Value} {base0 : Heap} {a0 : Str} {i : Int} {j : Nat} (vs : List Nat) (D : TryD P0 w0 K0 mg0 base0 l) (hr : Room (k + 2) X.A) (TB : TabB X.base X.mg c P) (hcode : X.env.code = .ref c) (hT : TbOk T Z.F) (hmT : (P, X.env.qual ++ "<lambda>") ∈ T) (huT : ∀ p ∈ T, p.1 = P → p.2 = X.env.qual ++ "<lambda>")
    (hbody : ∀ (F0 : Wo) (H0 : Hp) (W : WX) (w' : WD) (lk : Lk F0 H0 W w') (A : Around) (outer : List Env) (s : Shared) (H : Hp) (E : XK) (f c' : Addr), Room k (A.deeper (lamEnv X scope s.heap.objs.size f c')) →
      Takes (lamCx X A outer s H E scope f c') W → DE ⟨F0, H0, W, w', lk⟩ (lamCx X A outer s H E scope f c') body (b w'))
    (hg : Gl X "_law_try" := by rfl) (L : LamD.LamSD X.env.scope scope a0 := by exact LamD.lamSD_by (by decide +kernel)) (hN : a0 ∉ X.N := by decide) (hdef : defaultsOf params X.env = ([eval (.Constant (.int i) j p0) X.env], []) := by rfl)
    (hbind : LamD.BindD params body scope a0 := by exact fun _ _ _ _ _ _ => ⟨_, rfl, fun _ => rfl⟩)
    (e1 : X.prog = P0 := by rfl) (e2 : X.w = w0 := by rfl) (e3 : X.K = K0 := by rfl) (e4 : X.mg = mg0 := by rfl) (e5 : X.base = base0 := by rfl) :
    DE Z X (.Call (.Name "_law_try" p) [.Lambda params body scope lpos] [] pos) (dTry K0 l vs b) := by
  subst e1; subst e2; subst e3; subst e4; subst e5
  obtain ⟨g, pg, bg, sg, kV, doc, pm, cdv, ct, oc, an, od, osl, hm, hk, lk, hcg, hb, Sg, hva, hG⟩ := D.ex
  refine de_try_of vs hT (LamD.callD (T := T) (TT := TTry X.K l)
      (t := fun E σ H Q => ∃ (F0 : Wo) (H0 : Hp) (w' : WD) (lk : Lk F0 H0 (fun cls d _ H => E cls d H) w'), tD ⟨F0, H0, fun cls d _ H => E cls d H, w', lk⟩ (b w') σ H Q)
      hg hm hk lk hcg hb Sg (Ng := ["_law_ask", "e"]) (a := "_law_ask") rfl hva (hG X _ rfl rfl rfl rfl rfl) TB hcode hmT huT hr L hN hdef hbind
      (fun A outer s H E f c' hr' => ⟨fun pins s' σ H' Q I ⟨F0, H0, w', lk, h⟩ => (hbody F0 H0 _ w' lk A outer s H E f c' hr' (takes_of rfl rfl rfl rfl)).pe.run pins s' σ H' Q I h⟩))
theorem de_tryD {P0 : Program} {w0 : World} {K0 : PySem.W.Frag} {mg0 : Str → Option Value} {base0 : Heap} {a0 : Str} {i : Int} {j : Nat} (vs : List Nat) (D : TryD P0 w0 K0 mg0 base0 l) (hr : Room (k + 2) X.A) (TB : TabB X.base X.mg c P) (hcode : X.env.code = .ref c) (hT : TbOk [(P, X.env.qual ++ "<lambda>")] Z.F)
    (hbody : ∀ (F0 : Wo) (H0 : Hp) (W : WX) (w' : WD) (lk : Lk F0 H0 W w') (A : Around) (outer : List Env) (s : Shared) (H : Hp) (E : XK) (f c' : Addr), Room k (A.deeper (lamEnv X scope s.heap.objs.size f c')) →
      Takes (lamCx X A outer s H E scope f c') W → DE ⟨F0, H0, W, w', lk⟩ (lamCx X A outer s H E scope f c') body (b w'))
    (hg : Gl X "_law_try" := by rfl) (L : LamD.LamSD X.env.scope scope a0 := by exact LamD.lamSD_by (by decide +kernel)) (hN : a0 ∉ X.N := by decide) (hdef : defaultsOf params X.env = ([eval (.Constant (.int i) j p0) X.env], []) := by rfl)
    (hbind : LamD.BindD params body scope a0 := by exact fun _ _ _ _ _ _ => ⟨_, rfl, fun _ => rfl⟩)
    (e1 : X.prog = P0 := by rfl) (e2 : X.w = w0 := by rfl) (e3 : X.K = K0 := by rfl) (e4 : X.mg = mg0 := by rfl) (e5 : X.base = base0 := by rfl) :
    DE Z X (.Call (.Name "_law_try" p) [.Lambda params body scope lpos] [] pos) (dTry K0 l vs b) :=
  de_tryTD vs D hr TB hcode hT List.mem_cons_self (fun q hq _ => by rw [List.mem_singleton.mp hq]) hbody hg L hN hdef hbind e1 e2 e3 e4 e5
end
end DL

namespace DL
open PySem L2
/-- all sequences from start to end -/
def rowsP (r : Rules) : List Str → List Sp1 → List (List Str)
  | s, [] => [s]
  | s, t :: ts => s :: rowsP r (aftP r s t) ts
theorem rowsP_snoc {r : Rules} {t : Sp1} : ∀ {s : List Str} {ts : List Sp1}, rowsP r s (ts ++ [t]) = rowsP r s ts ++ [aftP r (runP r s ts) t]
  | _, [] => rfl
  | s, u :: ts => by
    show s :: rowsP r (aftP r s u) (ts ++ [t]) = s :: (rowsP r (aftP r s u) ts ++ _)
    rw [rowsP_snoc]; rfl
theorem rowsP_ne {r : Rules} {s : List Str} {ts : List Sp1} : rowsP r s ts ≠ [] := by cases ts <;> simp [rowsP]
theorem rowsP_last {r : Rules} : ∀ {s : List Str} {ts : List Sp1}, (rowsP r s ts).getLast rowsP_ne = runP r s ts
  | _, [] => rfl
  | s, t :: ts => by
    show (s :: rowsP r (aftP r s t) ts).getLast _ = _
    rw [List.getLast_cons rowsP_ne, rowsP_last]; rfl
theorem rowsP_len {r : Rules} : ∀ {s : List Str} {ts : List Sp1}, (rowsP r s ts).length = ts.length + 1
  | _, [] => rfl
  | s, t :: ts => by show (rowsP r (aftP r s t) ts).length + 1 = _; rw [rowsP_len]; rfl
theorem rowsP_get {r : Rules} : ∀ {s : List Str} {ts : List Sp1} {k : Nat}, k ≤ ts.length → (rowsP r s ts)[k]? = some (runP r s (ts.take k))
  | _, [], 0, _ => rfl
  | _, _ :: _, 0, _ => rfl
  | s, t :: ts, k + 1, h => by
    show (rowsP r (aftP r s t) ts)[k]? = _
    rw [rowsP_get (by simpa using h)]; rfl
theorem run_len {r : Rules} (g : GrOk r) : ∀ {s : List Str} {ts : List Sp1}, (∀ x ∈ s, x ∈ namesR r) → okRun r s ts → (runP r s ts).length ≤ s.length + 3 * ts.length
  | _, [], _, _ => by simp [runP]
  | s, t :: ts, hs, ⟨h1, h2⟩ => by
    obtain ⟨c1, c2, c3⟩ := aft_len g hs h1
    have := run_len g c3 h2
    show (runP r (aftP r s t) ts).length ≤ _
    simp only [List.length_cons]
    omega
theorem okRun_take {r : Rules} : ∀ {s : List Str} {ts us : List Sp1}, okRun r s (ts ++ us) → okRun r s ts ∧ okRun r (runP r s ts) us
  | _, [], _, h => ⟨trivial, h⟩
  | s, t :: ts, us, ⟨h1, h2⟩ => ⟨⟨h1, (okRun_take h2).1⟩, (okRun_take h2).2⟩
structure DOk (r : Rules) (s : List Str) (ts : List Sp1) : Prop where
  g : GrOk r
  ne : s ≠ []
  mem : ∀ x ∈ s, x ∈ namesR r
  len : s.length + 3 * ts.length ≤ 900000
  run : okRun r s ts
  most : ts.length ≤ 120
def dvD (C CG : Addr) (r : Rules) (s : List Str) (ts : List Sp1) : DV := .obj C ["base", "states", "actions"] [grD CG r, .lst ((rowsP r s ts).map encS), .lst (ts.map encP)]
theorem isOb_dv {C CG : Addr} {r : Rules} {s : List Str} {ts : List Sp1} : IsOb C (dvD C CG r s ts) := ⟨_, _, rfl⟩
def spDeriv (C CG CI CL : Addr) : DSp := fun ds Q E => ∃ (r : Rules) (s : List Str) (ts : List Sp1), ds = [grD CG r, encS s, .lst (ts.map encP)] ∧ GrOk r ∧ s.length + 3 * ts.length ≤ 900000 ∧ match seqBad (namesR r) s with
  | some k => E CI ["word", "position"] [.str "invalidsequence", .int k]
  | none => if 120 < ts.length then E CL ["word", "limit"] [.str "limitexceeded", .int 120] else okRun r s ts ∧ Q (dvD C CG r s ts)
def spDvGr (C CG : Addr) : DSp := fun ds Q _ => ∃ (r : Rules) (s : List Str) (ts : List Sp1), ds = [dvD C CG r s ts] ∧ Q (grD CG r)
def spDvStart (C CG : Addr) : DSp := fun ds Q _ => ∃ (r : Rules) (s : List Str) (ts : List Sp1), ds = [dvD C CG r s ts] ∧ Q (encS s)
def spDvEnd (C CG : Addr) : DSp := fun ds Q _ => ∃ (r : Rules) (s : List Str) (ts : List Sp1), ds = [dvD C CG r s ts] ∧ Q (encS (runP r s ts))
def spDvSteps (C CG : Addr) : DSp := fun ds Q _ => ∃ (r : Rules) (s : List Str) (ts : List Sp1), ds = [dvD C CG r s ts] ∧ Q (.lst (ts.map encP))
def spDvRows (C CG : Addr) : DSp := fun ds Q _ => ∃ (r : Rules) (s : List Str) (ts : List Sp1), ds = [dvD C CG r s ts] ∧ Q (.lst ((rowsP r s ts).map encS))
def spDvLen (C CG : Addr) : DSp := fun ds Q _ => ∃ (r : Rules) (s : List Str) (ts : List Sp1), ds = [dvD C CG r s ts] ∧ Q (.int (ts.length : Nat))
end DL
namespace DL
open PySem L2
theorem seqBad_ok {ns s : List Str} (h : seqBad ns s = none) : s ≠ [] ∧ ∀ x ∈ s, x ∈ ns := by
  refine ⟨fun e => ?_, seqBad_mem h⟩
  rw [e] at h
  exact nomatch h
theorem srt_run {r : Rules} (g : GrOk r) : ∀ {s : List Str} {ts : List Sp1}, (∀ x ∈ s, x ∈ namesR r) → okRun r s ts → okRun (srtR r) s ts ∧ runP (srtR r) s ts = runP r s ts ∧ rowsP (srtR r) s ts = rowsP r s ts
  | _, [], _, _ => ⟨trivial, rfl, rfl⟩
  | s, t :: ts, hs, ⟨h1, h2⟩ => by
    have e := aftP_srt hs h1
    obtain ⟨_, _, c3⟩ := aft_len g hs h1
    obtain ⟨a1, a2, a3⟩ := srt_run g c3 h2
    refine ⟨⟨okP_srt hs h1, by rw [e]; exact a1⟩, ?_, ?_⟩
    · show runP (srtR r) (aftP (srtR r) s t) ts = _
      rw [e]; exact a2
    · show s :: rowsP (srtR r) (aftP (srtR r) s t) ts = _
      rw [e, a3]; rfl
theorem DOk.strs {r : Rules} {s : List Str} {ts : List Sp1} (d : DOk r s ts) : OkS s ∧ OkS (runP r s ts) := ⟨d.g.strs d.mem, d.g.strs (run_ok d.g d.ne d.mem d.run).2⟩
theorem DOk.bad {r : Rules} {s : List Str} {ts : List Sp1} (d : DOk r s ts) : seqBad (namesR r) s = none := seqBad_none d.ne d.mem
/-- making one that is right -/
theorem deriv_go {C CG CI CL : Addr} {r : Rules} {s : List Str} {ts : List Sp1} {Q : DV → Prop} {E : ED} (d : DOk r s ts) (h : Q (dvD C CG r s ts)) : spN 3 (spDeriv C CG CI CL) [grD CG r, encS s, .lst (ts.map encP)] Q E := by
  refine ⟨rfl, r, s, ts, rfl, d.g, d.len, ?_⟩
  rw [d.bad]
  show if 120 < ts.length then _ else _
  rw [if_neg (by have := d.most; omega)]
  exact ⟨d.run, h⟩
theorem DOk.app {r : Rules} {s : List Str} {ts us : List Sp1} (d : DOk r s ts) (e : DOk r (runP r s ts) us) (hl : s.length + 3 * (ts.length + us.length) ≤ 900000) (hm : ts.length + us.length ≤ 120) : DOk r s (ts ++ us) :=
  ⟨d.g, d.ne, d.mem, by rw [List.length_append]; exact hl, okRun_app d.run e.run, by rw [List.length_append]; exact hm⟩
theorem DOk.srt {r : Rules} {s : List Str} {ts : List Sp1} (d : DOk r s ts) : DOk (srtR r) s ts := ⟨d.g.srt, d.ne, fun x hx => mem_srtR.mpr (d.mem x hx), d.len, (srt_run d.g d.mem d.run).1, d.most⟩
def reprD (a b c : Nat) : Str := ((((("Derivation(" : Str) ++ numS a) ++ (" steps, " : Str)) ++ numS b) ++ (" to " : Str)) ++ numS c ++ (" symbols)" : Str)
theorem nlog {n : Nat} (h : n ≤ 1000000) : (n : Int).natAbs.log2 < 1920 := Nat.lt_of_lt_of_le (log_of (n := 20) (by rw [Int.natAbs_natCast]; omega) (by decide)) (by decide)
theorem nlen {n : Nat} (h : n ≤ 1000000) : (numS n).length ≤ 7 := by rw [numS_len]; exact TL.numL_len (n := n) (k := 7) (by decide) (by omega)
theorem reprD_parts : ("Derivation(" : Str).length = 11 ∧ (" steps, " : Str).length = 8 ∧ (" to " : Str).length = 4 ∧ (" symbols)" : Str).length = 9 := by decide +kernel
theorem sp3b : (" , " : Str) = sep3 44 ∧ (" : " : Str) = sep3 58 ∧ (" , " : Str).length = 3 ∧ (" : " : Str).length = 3 := by decide +kernel
def strD (s : List Str) (ts : List Sp1) : Str := if ts = [] then textS s else textS s ++ (" : " : Str) ++ Txt.join " , " (ts.map fun t => textS (stepT t))
def SmN : Sp1 → Prop
  | .ex p => p < 10000
  | .co p x => p < 10000 ∧ nameB x = true
theorem SmN.small {t : Sp1} (h : SmN t) : SmallP t := by
  cases t with
  | ex p => exact h
  | co p x => exact ⟨h.1, by have := nameB_len h.2; omega⟩
theorem SmN.len {t : Sp1} (h : SmN t) : (textS (stepT t)).length ≤ 30 := stepT_len (t := t) (by cases t <;> exact h)
theorem steps_small {r : Rules} (g : GrOk r) : ∀ {s : List Str} {ts : List Sp1}, (∀ x ∈ s, x ∈ namesR r) → okRun r s ts → s.length + 3 * ts.length < 10000 → ∀ t ∈ ts, SmN t
  | _, [], _, _, _, _, h => nomatch h
  | s, t :: ts, hs, ⟨h1, h2⟩, hl, u, hu => by
    obtain ⟨c1, c2, c3⟩ := aft_len g hs h1
    simp only [List.length_cons] at hl
    rcases List.mem_cons.mp hu with rfl | hu
    · cases u with
      | ex p => exact Nat.lt_of_lt_of_le h1.1 (by omega)
      | co p x => exact ⟨Nat.lt_of_lt_of_le h1.1 (by omega), g.nm x h1.2.1⟩
    · exact steps_small g c3 h2 (by omega) u hu
theorem stepsT_sum {ts : List Sp1} (h : ∀ t ∈ ts, SmN t) : ((ts.map fun t => textS (stepT t)).map Str.length).sum ≤ ts.length * 30 := by
  have := sum_le (s := ts.map fun t => textS (stepT t)) (n := 30) fun y hy => by
    obtain ⟨t, ht, rfl⟩ := List.mem_map.mp hy
    exact (h t ht).len
  rwa [List.length_map] at this
theorem stepsT_len {ts : List Sp1} (h : ∀ t ∈ ts, SmN t) : (Txt.join " , " (ts.map fun t => textS (stepT t))).length ≤ ts.length * 33 := by
  have h1 := join_len (" , " : Str) (ts.map fun t => textS (stepT t))
  have h2 := stepsT_sum h
  rw [List.length_map, sp3b.2.2.1] at h1
  omega
def spDvRepr (C CG : Addr) : DSp := fun ds Q _ => ∃ (r : Rules) (s : List Str) (ts : List Sp1), ds = [dvD C CG r s ts] ∧ s.length ≤ 1000000 ∧ ts.length ≤ 1000 ∧ (runP r s ts).length ≤ 1000000 ∧ Q (.str (reprD ts.length s.length (runP r s ts).length))
def spDvStr (C CG : Addr) : DSp := fun ds Q _ => ∃ (r : Rules) (s : List Str) (ts : List Sp1), ds = [dvD C CG r s ts] ∧ (s.map Str.length).sum + s.length ≤ 100000 ∧ ts.length ≤ 1000 ∧ (∀ t ∈ ts, SmN t) ∧ Q (.str (strD s ts))
/-- what the law makes, in its own words -/
structure LOk (r : Rules) (s : List Str) (ts : List Sp1) : Prop where
  d : DOk r s ts
  small : s.length + 3 * ts.length < 10000
def spLawDeriv (C CG : Addr) : DSp := fun ds Q _ => ∃ (r : Rules) (s : List Str) (ts : List Sp1), ds = [encR r, encS s, .lst (ts.map encP)] ∧ DOk r s ts ∧ Q (dvD C CG (srtR r) s ts)
def spLawIs (C CG : Addr) : DSp := fun ds Q _ => ∃ (r : Rules) (s : List Str) (ts : List Sp1), ds = [dvD C CG (srtR r) s ts, encR r, encS s, .lst (ts.map encP)] ∧ LOk r s ts ∧ Q (.bl true)
def spLawDrawn (m : Nat) : DSp := fun ds Q _ => ∃ (b : Addr) (n : Nat), ds = [.bag b, .int n] ∧ n ≤ 1000 ∧ ∀ (r : Rules) (s : List Str) (ts : List Sp1), LawR r → 1 ≤ s.length → s.length ≤ m → (∀ x ∈ s, x ∈ namesR r) → ts.length ≤ n → okRun r s ts → (∀ k, (runP r s (ts.take k)).length ≤ s.length + 30) → Q (.tup [encR r, encS s, .lst (ts.map encP)])
end DL

namespace L2
open PySem PySem.Spec PyProof.Rows
section
variable {X : Cx} {k : Nat} {f C : Addr} {fd : FuncData} {ps : List Str} {sp : Sp}
end
end L2
namespace DL
open PySem L2
section
variable {Z : Zx} {X : Cx} {pos : Pos} {e1 e2 : Expr} {a b : AE} {C : Addr} {sp : DSp} {k : Nat}
end
theorem strOk_of {z : Str} (h : ∀ c ∈ z.cps.toList, c < 1114112) : PyData.strOk z = true := by
  unfold PyData.strOk
  rw [← Array.all_toList, List.all_eq_true]
  exact fun c hc => decide_eq_true (h c hc)
theorem strOk_mem {z : Str} (h : PyData.strOk z = true) : ∀ c ∈ z.cps.toList, c < 1114112 := by
  unfold PyData.strOk at h
  rw [← Array.all_toList, List.all_eq_true] at h
  exact fun c hc => of_decide_eq_true (h c hc)
theorem strOk_textS {s : List Str} (h : OkS s) : PyData.strOk (textS s) = true := strOk_of fun c hc => by
  rcases mem_textS hc with rfl | ⟨x, hx, hc⟩
  · decide
  · exact strOk_mem (h x hx) c hc
theorem strOk_numS (n : Nat) : PyData.strOk (numS n) = true := strOk_of fun c hc => by
  by_cases h : c < 48 ∨ 57 < c
  · exact absurd hc (numS_free n h)
  · omega
theorem okS_stepT {t : Sp1} (h : SmN t) : OkS (stepT t) := by
  have e1 : PyData.strOk "expand" = true ∧ PyData.strOk "contract" = true := by decide +kernel
  cases t with
  | ex p =>
    intro x hx
    have : x = "expand" ∨ x = numS p := by simpa [stepT] using hx
    rcases this with rfl | rfl
    · exact e1.1
    · exact strOk_numS p
  | co p y =>
    intro x hx
    have : x = "contract" ∨ x = numS p ∨ x = y := by simpa [stepT] using hx
    rcases this with rfl | rfl | rfl
    · exact e1.2
    · exact strOk_numS p
    · exact nameB_ok h.2
theorem join1 (y a : Str) : Txt.join y [a] = a := by rw [TL.join_eq]; rfl
theorem join2 (y a b : Str) : Txt.join y [a, b] = a ++ y ++ b := by rw [TL.join_eq]; rfl
theorem plS (d : Nat) (x : Str) : plainD d (.str x) := by cases d <;> exact trivial
theorem plI (d : Nat) (x : Int) : plainD d (.int x) := by cases d <;> exact trivial
theorem plain_encS' {s : List Str} {d : Nat} (h : s.length ≤ 1000000) : plainD (d + 1) (encS s) := plain_encS s (line6 h) d
theorem plain_encP (t : Sp1) {d : Nat} : plainD (d + 1) (encP t) := by
  cases t with
  | ex p =>
    refine ⟨by show 2 ≤ sizeLine; decide, fun x hx => ?_⟩
    have : x = .str "expand" ∨ x = .int p := by simpa using hx
    rcases this with rfl | rfl
    · exact plS _ _
    · exact plI _ _
  | co p y =>
    refine ⟨by show 3 ≤ sizeLine; decide, fun x hx => ?_⟩
    have : x = .str "contract" ∨ x = .int p ∨ x = .str y := by simpa using hx
    rcases this with rfl | rfl | rfl
    · exact plS _ _
    · exact plI _ _
    · exact plS _ _
theorem plain_steps {ts : List Sp1} {d : Nat} (h : ts.length ≤ 1000000) : plainD (d + 2) (.lst (ts.map encP)) :=
  ⟨by rw [List.length_map]; exact line6 h, fun x hx => by obtain ⟨t, _, rfl⟩ := List.mem_map.mp hx; exact plain_encP t⟩
theorem rowsP_mem {r : Rules} (g : GrOk r) : ∀ {s : List Str} {ts : List Sp1}, (∀ x ∈ s, x ∈ namesR r) → okRun r s ts → ∀ z ∈ rowsP r s ts, z.length ≤ s.length + 3 * ts.length ∧ ∀ x ∈ z, x ∈ namesR r
  | s, [], hs, _, z, hz => by
    have : z = s := by simpa [rowsP] using hz
    subst this
    exact ⟨by simp, hs⟩
  | s, t :: ts, hs, ⟨h1, h2⟩, z, hz => by
    obtain ⟨c1, c2, c3⟩ := aft_len g hs h1
    rcases List.mem_cons.mp (show z ∈ s :: rowsP r (aftP r s t) ts from hz) with rfl | hz
    · exact ⟨by omega, hs⟩
    · obtain ⟨a, b⟩ := rowsP_mem g c3 h2 z hz
      exact ⟨by simp only [List.length_cons]; omega, b⟩
theorem plain_rows {r : Rules} {s : List Str} {ts : List Sp1} {d : Nat} (g : GrOk r) (hs : ∀ x ∈ s, x ∈ namesR r) (h : okRun r s ts) (hl : s.length + 3 * ts.length ≤ 900000) : plainD (d + 2) (.lst ((rowsP r s ts).map encS)) :=
  ⟨by rw [List.length_map, rowsP_len]; exact line6 (by omega), fun x hx => by obtain ⟨z, hz, rfl⟩ := List.mem_map.mp hx; exact plain_encS' (by have := (rowsP_mem g hs h z hz).1; omega)⟩
end DL

namespace DL
open PySem L2

def dDisp0 : List (AE × AE) → List Key → List DV → (List Key → List DV → DSt → Prop) → DSt → Prop
  | [], ks, xs, fin, ρ => fin ks xs ρ
  | (ak, av) :: r, ks, xs, fin, ρ => ak ρ fun y ρ1 => av ρ1 fun z ρ2 => ∃ k, keyD y = some k ∧ dDisp0 r (putD ks xs k z).1 (putD ks xs k z).2 fin ρ2
def dDisp (trs : List (AE × AE)) : AE := fun ρ Q => dDisp0 trs [] [] (fun ks xs ρ1 => Q (.dic ks xs) ρ1) ρ
section
variable {Z : Zx} {X : Cx} {pos : Pos}
theorem lift_pairs {B : Addr → Option HO} {p : Addr} : ∀ (trs : List (AE × AE)) {σ : St} {H : Hp} {F : Wo} {ρ : DSt} {ks : List Key} {xs : List DV} {kvs : List (Key × V)} {fin : List Key → List DV → DSt → Prop} {Q : List (V × V) → Hp → Prop},
    Wd ((Z.b B).loose p (.dK [])) F H → RSt ((Z.b B).loose p (.dK [])) F ρ σ H → Reps F xs (kvs.map (·.2)) → kvs.map (·.1) = ks → dDisp0 trs ks xs fin ρ →
    (∀ F' H' ρ' (more : List (Key × V)) xs', Wd ((Z.b B).loose p (.dK [])) F' H' → Ext F F' → RSt ((Z.b B).loose p (.dK [])) F' ρ' σ H' → Reps F' xs' ((mergeK kvs more).map (·.2)) → more.length = trs.length → fin ((mergeK kvs more).map (·.1)) xs' ρ' → Q (more.map fun kv => (kV kv.1, kv.2)) H') →
    tPairs (trs.map fun q => (tD Z q.1, tD Z q.2)) σ H Q
  | [], σ, H, F, ρ, ks, xs, kvs, fin, Q, w, r, ha, hk, q, k => by
    subst hk
    exact k F H ρ [] xs w (Ext.refl F) r ha rfl q
  | (ak, av) :: trs, σ, H, F, ρ, ks, xs, kvs, fin, Q, w, r, ha, hk, q, k => by
    subst hk
    refine ⟨_, F, ρ, _, w, r, q, fun F1 H1 ρ1 y vy w1 x1 r1 hy q1 => ⟨_, F1, ρ1, _, w1, r1, q1, fun F2 H2 ρ2 z vz w2 x2 r2 hz q2 => ?_⟩⟩
    obtain ⟨kk, ek, q2⟩ := q2
    have e : vy = kV kk := rep_key hy ek
    subst e
    obtain ⟨n1, n2⟩ := putK_keys (k := kk) (ha.mono (x1.trans x2)) hz
    exact lift_pairs trs w2 r2 n2 n1 q2 fun F' H' ρ' more xs' w' x' r' hs hl hq => k F' H' ρ' ((kk, vz) :: more) xs' w' ((x1.trans x2).trans x') r' hs (by rw [List.length_cons, List.length_cons, hl]) hq
structure DPr (Z : Zx) (X : Cx) (pos : Pos) (keys : List (Option Expr)) (values : List Expr) (trs : List (AE × AE)) : Prop where
  pp : PPs X pos keys values (trs.map fun q => (tD Z q.1, tD Z q.2))
theorem dpr_nil : DPr Z X pos [] [] [] := ⟨pps_nil⟩
theorem dpr_cons {k v : Expr} {ks : List (Option Expr)} {vs : List Expr} {a b : AE} {trs : List (AE × AE)} (hk : DE Z X k a) (hv : DE Z X v b) (hr : DPr Z X pos ks vs trs) : DPr Z X pos (some k :: ks) (v :: vs) ((a, b) :: trs) := ⟨pps_cons hk.pe hv.pe hr.pp⟩
theorem de_disp {keys : List (Option Expr)} {values : List Expr} {trs : List (AE × AE)} (h : DPr Z X pos keys values trs) (hall : keys.all (·.isSome) = true := by rfl) (hl : keys.length = values.length := by rfl) (h0 : keys ≠ [] := by exact List.cons_ne_nil _ _)
    (h15 : keys.length ≤ 15 := by decide) (hn : trs.length = keys.length := by rfl) : DE Z X (.Dict keys values pos) (dDisp trs) := by
  refine ⟨pe_imp (pe_disp h.pp hall hl h0 h15) fun σ H Q h => ?_⟩
  obtain ⟨B, F, ρ, Q', w, r, q, k⟩ := h
  intro p hp
  obtain ⟨wl, rl⟩ := w.loosen (o := .dK []) hp
  refine lift_pairs (B := B) trs wl (rl _ _ r) (kvs := []) Reps.nil rfl q fun F' H' ρ' more xs' w' x' r' hs hm hq => ?_
  refine ⟨(w'.lo p _ (if_pos rfl)).1, more, rfl, by rw [hm, hn]; exact h15, ?_⟩
  obtain ⟨w8, r8⟩ := Wd.reloose (B := Z.b B) (p := p) (o := .dK []) (u := .dK (mergeK [] more)) w'
  obtain ⟨w9, x9, r9⟩ := Wd.fix (B := Z.b B) (p := p) (o := .dK (mergeK [] more)) w8 (w.nl hp)
  exact k _ _ _ _ _ w9 (x'.trans x9) (r9 _ _ (r8 _ _ r')) (rep_dic.mpr ⟨p, _, rfl, Wo.add_same, rfl, hs.mono x9⟩) hq
end
/-- a name that is none of a def's locals -/
theorem nin (a : Str) {N ps : List Str} {sc : Scope} (_ : FnScope N ps sc) (h : ¬ a ∈ N) : ¬ a ∈ N := h
end DL

namespace DL
open PySem L2

def pr2 : List Sp1 := [.ex 0, .co 0 "a"]
def prN : Nat → List Sp1
  | 0 => []
  | n + 1 => .ex 0 :: .co 0 "a" :: prN n
theorem prN_len : ∀ n : Nat, (prN n).length = 2 * n
  | 0 => rfl
  | n + 1 => by show (prN n).length + 1 + 1 = _; rw [prN_len n]; omega
def g2 : Rules := [("a", ["a", "a"]), ("b", [])]
theorem prN_rep : ∀ n : Nat, (List.replicate n (pr2.map encP)).flatten = (prN n).map encP
  | 0 => rfl
  | n + 1 => by rw [List.replicate_succ, List.flatten_cons, prN_rep n]; rfl
theorem wipe_start {b : Lv} {n : Nat} : ∀ vs : List Nat, 1 ∉ vs → wipeD (none :: some b :: List.replicate n none) vs = none :: some b :: List.replicate n none := by
  have st : ∀ i, i ≠ 1 → (none :: some b :: List.replicate n none : DSt).set i none = none :: some b :: List.replicate n none := fun i hi => by
    match i with
    | 0 => rfl
    | 1 => exact absurd rfl hi
    | i + 2 =>
      show none :: some b :: (List.replicate n none).set i none = _
      congr 2
      apply List.ext_getElem?
      intro j
      rw [List.getElem?_set, List.getElem?_replicate, List.length_replicate]
      split <;> split <;> simp_all
  intro vs
  induction vs with
  | nil => intro _; rfl
  | cons v vs ih =>
    intro h
    show (wipeD (none :: some b :: List.replicate n none : DSt) vs).set v none = _
    rw [ih fun e => h (List.mem_cons_of_mem _ e)]
    exact st v fun e => h (by rw [e]; exact List.mem_cons_self)
end DL

namespace DL
open PySem L2

/-- how a step ends -/
inductive StR where
  | ok (s : List Str) | bad | range (i : Int) | term (p : Nat) | unk (x : Str) | nom (p : Nat)
def raiseS (CI CR CT CU CN : Addr) (o : StR) (Q : List Str → Prop) (E : ED) : Prop := match o with
  | .ok s => Q s
  | .bad => E CI ["word"] [.str "invalidstep"]
  | .range i => E CR ["word", "index"] [.str "outofrange", .int i]
  | .term p => E CT ["word", "position"] [.str "terminalsymbol", .int p]
  | .unk x => E CU ["word", "name"] [.str "unknownsymbol", .str x]
  | .nom p => E CN ["word", "position"] [.str "nomatch", .int p]
/-- a step of any kind -/
inductive SpX where
  | ex (i : Int) | co (i : Int) (x : Str) | od (xs : List DV)
def encX : SpX → DV
  | .ex i => .tup [.str "expand", .int i]
  | .co i x => .tup [.str "contract", .int i, .str x]
  | .od xs => .tup xs
def outEx (r : Rules) (s : List Str) (i : Int) : StR := if 0 ≤ i ∧ i < s.length then if getR r (s.getD i.toNat "") = [] then .term i.toNat else .ok (expS r s i.toNat) else .range i
def outCo (r : Rules) (s : List Str) (i : Int) (x : Str) : StR := if 0 ≤ i ∧ i < s.length then if x ∈ namesR r then if matchAt r s i.toNat x = true then .ok (conS r s i.toNat x) else .nom i.toNat else .unk x else .range i
def outX (r : Rules) (s : List Str) : SpX → StR
  | .ex i => outEx r s i
  | .co i x => outCo r s i x
  | .od _ => .bad
def toX : Sp1 → SpX
  | .ex p => .ex (p : Nat)
  | .co p x => .co (p : Nat) x
theorem encX_to (t : Sp1) : encX (toX t) = encP t := by cases t <;> rfl
theorem outEx_in {r : Rules} {s : List Str} {p : Nat} (h : p < s.length) : outEx r s (p : Nat) = if getR r (s.getD p "") = [] then .term p else .ok (expS r s p) := by
  unfold outEx
  rw [if_pos ⟨by omega, by omega⟩, Int.toNat_natCast]
theorem outCo_in {r : Rules} {s : List Str} {p : Nat} {x : Str} (h : p < s.length) : outCo r s (p : Nat) x = if x ∈ namesR r then if matchAt r s p x = true then .ok (conS r s p x) else .nom p else .unk x := by
  unfold outCo
  rw [if_pos ⟨by omega, by omega⟩, Int.toNat_natCast]
def spCheckPosX (CR : Addr) : DSp := fun ds Q E => ∃ (s : List Str) (i : Int), ds = [encS s, .int i] ∧ if 0 ≤ i ∧ i < s.length then Q .non else E CR ["word", "index"] [.str "outofrange", .int i]
def spExpansionX (C CU : Addr) : DSp := fun ds Q E => ∃ (r : Rules) (x : Str), ds = [grD C r, .str x] ∧ if x ∈ namesR r then Q (encS (getR r x)) else E CU ["word", "name"] [.str "unknownsymbol", .str x]
def spExpandAtX (C CI CR CT CU CN : Addr) : DSp := fun ds Q E => ∃ (r : Rules) (s : List Str) (i : Int), ds = [grD C r, encS s, .int i] ∧ GrOk r ∧ SeqOk r s ∧ raiseS CI CR CT CU CN (outEx r s i) (fun s' => Q (encS s')) E
def spContractAtX (C CI CR CT CU CN : Addr) : DSp := fun ds Q E => ∃ (r : Rules) (s : List Str) (i : Int) (x : Str), ds = [grD C r, encS s, .int i, .str x] ∧ GrOk r ∧ SeqOk r s ∧ raiseS CI CR CT CU CN (outCo r s i x) (fun s' => Q (encS s')) E
def spDvExp (C CG CL CI CR CT CU CN : Addr) : DSp := fun ds Q E => ∃ (r : Rules) (s : List Str) (ts : List Sp1) (i : Int), ds = [dvD C CG r s ts, .int i] ∧ DOk r s ts ∧ s.length + 3 * ts.length ≤ 800000 ∧
  if 120 ≤ ts.length then E CL ["word", "limit"] [.str "limitexceeded", .int 120] else raiseS CI CR CT CU CN (outEx r (runP r s ts) i) (fun _ => Q (dvD C CG r s (ts ++ [.ex i.toNat]))) E
def spDvCon (C CG CL CI CR CT CU CN : Addr) : DSp := fun ds Q E => ∃ (r : Rules) (s : List Str) (ts : List Sp1) (i : Int) (x : Str), ds = [dvD C CG r s ts, .int i, .str x] ∧ DOk r s ts ∧ s.length + 3 * ts.length ≤ 800000 ∧
  if 120 ≤ ts.length then E CL ["word", "limit"] [.str "limitexceeded", .int 120] else raiseS CI CR CT CU CN (outCo r (runP r s ts) i x) (fun _ => Q (dvD C CG r s (ts ++ [.co i.toNat x]))) E
/-- the law's word for it -/
def dueX : StR → DV
  | .ok _ => .tup [.str "", .non]
  | .bad => .tup [.str "invalidstep", .non]
  | .range i => .tup [.str "outofrange", .int i]
  | .term p => .tup [.str "terminalsymbol", .int (p : Nat)]
  | .unk x => .tup [.str "unknownsymbol", .str x]
  | .nom p => .tup [.str "nomatch", .int (p : Nat)]
/-- a step as the laws draw it -/
def OddX (xs : List DV) : Prop := stepB xs = false ∧ (xs = [] ∨ ∃ z ys, xs = .str z :: ys)
def AnyX : SpX → Prop
  | .ex i => -1 ≤ i ∧ i ≤ 10 ^ 20
  | .co i x => -1 ≤ i ∧ i ≤ 10 ^ 20 ∧ x.length ≤ 1000 ∧ PyData.strOk x = true
  | .od xs => OddX xs
def spStepErr : DSp := fun ds Q _ => ∃ (r : Rules) (s : List Str) (t : SpX), ds = [encR r, encS s, encX t] ∧ AnyX t ∧ GrOk r ∧ SeqOk r s ∧ Q (dueX (outX r s t))
def spAnyStep : DSp := fun ds Q _ => ∃ (b : Addr) (r : Rules) (s : List Str), ds = [.bag b, encR r, encS s] ∧ LawR r ∧ SeqOk r s ∧ s.length ≤ 1000 ∧ ∀ t : SpX, AnyX t → Q (encX t)
theorem outEx_ok {r : Rules} {s s' : List Str} {i : Int} (h : outEx r s i = .ok s') : ∃ p : Nat, i = p ∧ okP r s (.ex p) ∧ s' = aftP r s (.ex p) := by
  by_cases hi : 0 ≤ i ∧ i < s.length
  · obtain ⟨p, rfl⟩ : ∃ p : Nat, i = p := ⟨i.toNat, by omega⟩
    have hp : p < s.length := by omega
    rw [outEx_in hp] at h
    by_cases c : getR r (s.getD p "") = []
    · rw [if_pos c] at h; cases h
    · rw [if_neg c] at h; cases h; exact ⟨p, rfl, ⟨hp, c⟩, rfl⟩
  · unfold outEx at h; rw [if_neg hi] at h; cases h
theorem outCo_ok {r : Rules} {s s' : List Str} {i : Int} {x : Str} (h : outCo r s i x = .ok s') : ∃ p : Nat, i = p ∧ okP r s (.co p x) ∧ s' = aftP r s (.co p x) := by
  by_cases hi : 0 ≤ i ∧ i < s.length
  · obtain ⟨p, rfl⟩ : ∃ p : Nat, i = p := ⟨i.toNat, by omega⟩
    have hp : p < s.length := by omega
    rw [outCo_in hp] at h
    by_cases c : x ∈ namesR r
    · rw [if_pos c] at h
      by_cases c2 : matchAt r s p x = true
      · rw [if_pos c2] at h; cases h; exact ⟨p, rfl, ⟨hp, c, c2⟩, rfl⟩
      · rw [if_neg c2] at h; cases h
    · rw [if_neg c] at h; cases h
  · unfold outCo at h; rw [if_neg hi] at h; cases h
theorem DOk.snoc {r : Rules} {s : List Str} {ts : List Sp1} {t : Sp1} (d : DOk r s ts) (h : okP r (runP r s ts) t) (hl : s.length + 3 * ts.length ≤ 800000) (hm : ts.length < 120) : DOk r s (ts ++ [t]) := by
  obtain ⟨q1, q2⟩ := run_ok d.g d.ne d.mem d.run
  have rl := run_len d.g d.mem d.run
  exact d.app ⟨d.g, q1, q2, by show _ + 3 * 1 ≤ _; omega, ⟨h, trivial⟩, by show 1 ≤ 120; decide⟩ (by show _ + 3 * (_ + 1) ≤ _; omega) (by show _ + 1 ≤ _; omega)
def goodX : SpX → Bool
  | .od _ => false
  | _ => true
end DL

namespace DL
open PySem L2

theorem outX_srt {r : Rules} {s : List Str} (hs : ∀ x ∈ s, x ∈ namesR r) : ∀ t : SpX, outX (srtR r) s t = outX r s t
  | .ex i => by
    show outEx (srtR r) s i = outEx r s i
    by_cases hi : 0 ≤ i ∧ i < s.length
    · obtain ⟨p, rfl⟩ : ∃ p : Nat, i = p := ⟨i.toNat, by omega⟩
      have hp : p < s.length := by omega
      have hm := hs _ (getD_mem hp)
      rw [outEx_in hp, outEx_in hp, getR_srtR hm]
      unfold expS
      rw [getR_srtR hm]
    · unfold outEx
      rw [if_neg hi, if_neg hi]
  | .co i x => by
    show outCo (srtR r) s i x = outCo r s i x
    by_cases hi : 0 ≤ i ∧ i < s.length
    · obtain ⟨p, rfl⟩ : ∃ p : Nat, i = p := ⟨i.toNat, by omega⟩
      have hp : p < s.length := by omega
      rw [outCo_in hp, outCo_in hp]
      by_cases hx : x ∈ namesR r
      · rw [if_pos (mem_srtR.mpr hx), if_pos hx]
        unfold matchAt conS
        rw [getR_srtR hx]
      · rw [if_neg (fun c => hx (mem_srtR.mp c)), if_neg hx]
    · unfold outCo
      rw [if_neg hi, if_neg hi]
  | .od _ => rfl
theorem dueX_plain {o : StR} {d : Nat} : plainD (d + 2) (dueX o) := by
  cases o <;> exact ⟨by show 2 ≤ sizeLine; decide, fun y hy => by
    simp only [List.mem_cons, List.not_mem_nil, or_false] at hy
    rcases hy with rfl | rfl <;> exact trivial⟩
def g1 : Rules := [("a", ["a", "a"])]
theorem g1_ok : GrOk g1 := ⟨by decide, by decide, by decide +kernel, by decide⟩
theorem g1_srt : srtR g1 = g1 := by decide +kernel
theorem q1_one : okP g1 ["a"] (.ex 0) ∧ okP g1 (aftP g1 ["a"] (.ex 0)) (.co 0 "a") ∧ aftP g1 (aftP g1 ["a"] (.ex 0)) (.co 0 "a") = [("a" : Str)] :=
  ⟨⟨by decide +kernel, by decide +kernel⟩, ⟨by decide +kernel, by decide +kernel, by decide +kernel⟩, by decide +kernel⟩
theorem q1_run (ts : List Sp1) (h : okRun g1 ["a"] ts) : ∀ n, okRun g1 ["a"] (prN n ++ ts) ∧ runP g1 ["a"] (prN n ++ ts) = runP g1 ["a"] ts
  | 0 => ⟨h, rfl⟩
  | n + 1 => by
    obtain ⟨p1, p2, p3⟩ := q1_one
    obtain ⟨i1, i2⟩ := q1_run ts h n
    refine ⟨⟨p1, p2, ?_⟩, ?_⟩
    · rw [p3]; exact i1
    · show runP g1 (aftP g1 (aftP g1 ["a"] (.ex 0)) (.co 0 "a")) _ = _
      rw [p3]; exact i2
theorem q1_d {n : Nat} (h : n ≤ 60) : DOk g1 ["a"] (prN n) := by
  have q := q1_run [] trivial n
  rw [List.append_nil] at q
  exact ⟨g1_ok, by decide, by decide, by rw [prN_len]; show 1 + _ ≤ _; omega, q.1, by rw [prN_len]; omega⟩
/-- neither done nor no step at all -/
def errB : StR → Bool
  | .ok _ => false
  | .bad => false
  | _ => true
open EL in
theorem raise_ans {K : PySem.W.Frag} {l : List (List Value × EK)} {CI CR CT CU CN : Addr} {Q : DV → Prop} {Qs : List Str → Prop} (tR : Trc K l CR (.one "index")) (tT : Trc K l CT (.one "position")) (tU : Trc K l CU (.one "name")) (tN : Trc K l CN (.one "position")) {o : StR}
    (h : errB o = true) (q : Q (dueX o)) : raiseS CI CR CT CU CN o Qs (TryAns K l Q) := by
  cases o with
  | ok s => cases h
  | bad => cases h
  | range i => exact ans_one tR rfl rfl q
  | term p => exact ans_one tT rfl rfl q
  | unk x => exact ans_one tU rfl rfl q
  | nom p => exact ans_one tN rfl rfl q
theorem due_err {o : StR} (h : errB o = true) : ∃ w z, dueX o = .tup [.str w, z] ∧ w ≠ "invalidstep" ∧ w ≠ "" := by
  cases o with
  | ok s => cases h
  | bad => cases h
  | range i => exact ⟨_, _, rfl, by decide, by decide⟩
  | term p => exact ⟨_, _, rfl, by decide, by decide⟩
  | unk x => exact ⟨_, _, rfl, by decide, by decide⟩
  | nom p => exact ⟨_, _, rfl, by decide, by decide⟩
end DL


--OWN
namespace DL
open PySem L2
def topS (i : Nat) : Stmt := PySem.Challenge.pw_sunderow_k17_one_more_step.main.body.getD i (.Pass ⟨0, 0, 0, 0⟩)
abbrev lTry (C_InvalidName : Addr) (C_DuplicateName : Addr) (C_UnknownSymbol : Addr) (C_UnknownUser : Addr) (C_InvalidRule : Addr) (C_MissingWeight : Addr) (C_RuleMismatch : Addr) (C_InvalidSequence : Addr) (C_TerminalSymbol : Addr) (C_NoMatch : Addr) (C_StepFailed : Addr) (C_StepInUse : Addr) (C_InvalidPath : Addr) (C_InvalidPoint : Addr) (C_OutOfRange : Addr) (C_LimitExceeded : Addr) (C_Blocked : Addr) (C_InvalidFile : Addr) (C_SunderError : Addr) (C_NotFound : Addr) : List (List Value × EL.EK) := [([.ref C_InvalidName, .ref C_DuplicateName, .ref C_UnknownSymbol, .ref C_UnknownUser], EL.EK.one "name"), ([.ref C_InvalidRule, .ref C_MissingWeight, .ref C_RuleMismatch], EL.EK.one "symbol"), ([.ref C_InvalidSequence, .ref C_TerminalSymbol, .ref C_NoMatch], EL.EK.one "position"), ([.ref C_StepFailed], EL.EK.two "index" "reason"), ([.ref C_StepInUse, .ref C_InvalidPath, .ref C_InvalidPoint, .ref C_OutOfRange], EL.EK.one "index"), ([.ref C_LimitExceeded], EL.EK.one "limit"), ([.ref C_Blocked], EL.EK.one "user"), ([.ref C_InvalidFile], EL.EK.one "line"), ([.ref C_SunderError, .ref C_NotFound], EL.EK.zero)]
abbrev sGrammar_rules : Stmt := inClass (topS 30) 6
theorem scGrammar_rules : FnScope ["self"] ["self"] (defScope sGrammar_rules) := ⟨rfl, rfl, rfl, by decide +kernel, rfl, by decide +kernel, by decide +kernel⟩
theorem biGrammar_rules : BindM sGrammar_rules "rules" "Grammar.rules" ["self"] := fun _ _ _ _ _ _ us hl => match us, hl with | [_], _ => rfl
abbrev scheck_sequence : Stmt := topS 36
theorem sccheck_sequence : FnScope ["grammar", "sequence", "rules", "position"] ["grammar", "sequence"] (defScope scheck_sequence) := ⟨rfl, rfl, rfl, by decide +kernel, rfl, by decide +kernel, by decide +kernel⟩
theorem bicheck_sequence : BindAs scheck_sequence "check_sequence" ["grammar", "sequence"] := fun _ _ _ _ _ _ us hl => match us, hl with | [_, _], _ => rfl
abbrev scheck_step : Stmt := topS 32
theorem sccheck_step : FnScope ["step"] ["step"] (defScope scheck_step) := ⟨rfl, rfl, rfl, by decide +kernel, rfl, by decide +kernel, by decide +kernel⟩
theorem bicheck_step : BindAs scheck_step "check_step" ["step"] := fun _ _ _ _ _ _ us hl => match us, hl with | [_], _ => rfl
abbrev sGrammar_expansion : Stmt := inClass (topS 30) 5
theorem scGrammar_expansion : FnScope ["self", "symbol"] ["self", "symbol"] (defScope sGrammar_expansion) := ⟨rfl, rfl, rfl, by decide +kernel, rfl, by decide +kernel, by decide +kernel⟩
theorem biGrammar_expansion : BindM sGrammar_expansion "expansion" "Grammar.expansion" ["self", "symbol"] := fun _ _ _ _ _ _ us hl => match us, hl with | [_, _], _ => rfl
abbrev scheck_position : Stmt := topS 37
theorem sccheck_position : FnScope ["sequence", "position"] ["sequence", "position"] (defScope scheck_position) := ⟨rfl, rfl, rfl, by decide +kernel, rfl, by decide +kernel, by decide +kernel⟩
theorem bicheck_position : BindAs scheck_position "check_position" ["sequence", "position"] := fun _ _ _ _ _ _ us hl => match us, hl with | [_, _], _ => rfl
abbrev scontract_at : Stmt := topS 39
theorem sccontract_at : FnScope ["grammar", "sequence", "position", "symbol", "parts"] ["grammar", "sequence", "position", "symbol"] (defScope scontract_at) := ⟨rfl, rfl, rfl, by decide +kernel, rfl, by decide +kernel, by decide +kernel⟩
theorem bicontract_at : BindAs scontract_at "contract_at" ["grammar", "sequence", "position", "symbol"] := fun _ _ _ _ _ _ us hl => match us, hl with | [_, _, _, _], _ => rfl
abbrev sexpand_at : Stmt := topS 38
theorem scexpand_at : FnScope ["grammar", "sequence", "position", "parts"] ["grammar", "sequence", "position"] (defScope sexpand_at) := ⟨rfl, rfl, rfl, by decide +kernel, rfl, by decide +kernel, by decide +kernel⟩
theorem biexpand_at : BindAs sexpand_at "expand_at" ["grammar", "sequence", "position"] := fun _ _ _ _ _ _ us hl => match us, hl with | [_, _, _], _ => rfl
abbrev ssequence_after : Stmt := topS 40
theorem scsequence_after : FnScope ["grammar", "sequence", "step"] ["grammar", "sequence", "step"] (defScope ssequence_after) := ⟨rfl, rfl, rfl, by decide +kernel, rfl, by decide +kernel, by decide +kernel⟩
theorem bisequence_after : BindAs ssequence_after "sequence_after" ["grammar", "sequence", "step"] := fun _ _ _ _ _ _ us hl => match us, hl with | [_, _, _], _ => rfl
abbrev sDerivation_init : Stmt := inClass (topS 43) 0
theorem scDerivation_init : FnScope ["self", "grammar", "start", "steps", "number", "step", "later", "e", ".states", ".actions"] ["self", "grammar", "start", "steps"] (defScope sDerivation_init) := ⟨rfl, rfl, rfl, by decide +kernel, rfl, by decide +kernel, by decide +kernel⟩
theorem biDerivation_init : BindV sDerivation_init "__init__" "Derivation.__init__" ["self", "grammar", "start", "steps"] := fun _ _ _ _ _ _ _ _ us hl => match us, hl with | [_, _, _, _], _ => ⟨_, rfl, rfl⟩
abbrev sDerivation_contracted : Stmt := inClass (topS 43) 11
theorem scDerivation_contracted : FnScope ["self", "position", "symbol"] ["self", "position", "symbol"] (defScope sDerivation_contracted) := ⟨rfl, rfl, rfl, by decide +kernel, rfl, by decide +kernel, by decide +kernel⟩
theorem biDerivation_contracted : BindM sDerivation_contracted "contracted" "Derivation.contracted" ["self", "position", "symbol"] := fun _ _ _ _ _ _ us hl => match us, hl with | [_, _, _], _ => rfl
abbrev sDerivation_expanded : Stmt := inClass (topS 43) 10
theorem scDerivation_expanded : FnScope ["self", "position"] ["self", "position"] (defScope sDerivation_expanded) := ⟨rfl, rfl, rfl, by decide +kernel, rfl, by decide +kernel, by decide +kernel⟩
theorem biDerivation_expanded : BindM sDerivation_expanded "expanded" "Derivation.expanded" ["self", "position"] := fun _ _ _ _ _ _ us hl => match us, hl with | [_, _], _ => rfl
abbrev sis_name : Stmt := topS 28
theorem scis_name : FnScope ["text", "sign"] ["text"] (defScope sis_name) := ⟨rfl, rfl, rfl, by decide +kernel, rfl, by decide +kernel, by decide +kernel⟩
theorem biis_name : BindAs sis_name "is_name" ["text"] := fun _ _ _ _ _ _ us hl => match us, hl with | [_], _ => rfl
abbrev sis_rule : Stmt := topS 29
theorem scis_rule : FnScope ["parts", "symbols", "part"] ["parts", "symbols"] (defScope sis_rule) := ⟨rfl, rfl, rfl, by decide +kernel, rfl, by decide +kernel, by decide +kernel⟩
theorem biis_rule : BindAs sis_rule "is_rule" ["parts", "symbols"] := fun _ _ _ _ _ _ us hl => match us, hl with | [_, _], _ => rfl
abbrev sGrammar_init : Stmt := inClass (topS 30) 0
theorem scGrammar_init : FnScope ["self", "rules", "name"] ["self", "rules"] (defScope sGrammar_init) := ⟨rfl, rfl, rfl, by decide +kernel, rfl, by decide +kernel, by decide +kernel⟩
theorem biGrammar_init : BindM sGrammar_init "__init__" "Grammar.__init__" ["self", "rules"] := fun _ _ _ _ _ _ us hl => match us, hl with | [_, _], _ => rfl
abbrev s_law_pull : Stmt := topS 46
theorem sc_law_pull : FnScope ["_law_bag_here", "_law_count", "_law_cell", "_law_digit", "_law_mixed"] ["_law_bag_here", "_law_count"] (defScope s_law_pull) := ⟨rfl, rfl, rfl, by decide +kernel, rfl, by decide +kernel, by decide +kernel⟩
theorem bi_law_pull : BindAs s_law_pull "_law_pull" ["_law_bag_here", "_law_count"] := fun _ _ _ _ _ _ us hl => match us, hl with | [_, _], _ => rfl
abbrev s_law_of : Stmt := topS 47
theorem sc_law_of : FnScope ["_law_bag_here", "_law_items"] ["_law_bag_here", "_law_items"] (defScope s_law_of) := ⟨rfl, rfl, rfl, by decide +kernel, rfl, by decide +kernel, by decide +kernel⟩
theorem bi_law_of : BindAs s_law_of "_law_of" ["_law_bag_here", "_law_items"] := fun _ _ _ _ _ _ us hl => match us, hl with | [_, _], _ => rfl
abbrev s_law_possible : Stmt := topS 51
theorem sc_law_possible : FnScope ["_law_rules_here", "_law_sequence_here", "_law_places", "_law_names_here", "_law_name", "_law_found", "_law_place", "_law_some"] ["_law_rules_here", "_law_sequence_here"] (defScope s_law_possible) := ⟨rfl, rfl, rfl, by decide +kernel, rfl, by decide +kernel, by decide +kernel⟩
theorem bi_law_possible : BindAs s_law_possible "_law_possible" ["_law_rules_here", "_law_sequence_here"] := fun _ _ _ _ _ _ us hl => match us, hl with | [_, _], _ => rfl
abbrev s_law_any_step : Stmt := topS 57
theorem sc_law_any_step : FnScope ["_law_bag_here", "_law_rules_here", "_law_sequence_here", "_law_place", "_law_name", "_law_odd", "_law_every"] ["_law_bag_here", "_law_rules_here", "_law_sequence_here"] (defScope s_law_any_step) := ⟨rfl, rfl, rfl, by decide +kernel, rfl, by decide +kernel, by decide +kernel⟩
theorem bi_law_any_step : BindAs s_law_any_step "_law_any_step" ["_law_bag_here", "_law_rules_here", "_law_sequence_here"] := fun _ _ _ _ _ _ us hl => match us, hl with | [_, _, _], _ => rfl
abbrev s_law_bag : Stmt := topS 45
theorem sc_law_bag : FnScope ["_law_script", "_law_salt", "_law_cell"] ["_law_script"] (defScope s_law_bag) := ⟨rfl, rfl, rfl, by decide +kernel, rfl, by decide +kernel, by decide +kernel⟩
theorem bi_law_bag : BindAs s_law_bag "_law_bag" ["_law_script"] := fun _ _ _ _ _ _ us hl => match us, hl with | [_], _ => rfl
abbrev s_law_derivation : Stmt := topS 55
theorem sc_law_derivation : FnScope ["_law_rules_here", "_law_start", "_law_steps_here"] ["_law_rules_here", "_law_start", "_law_steps_here"] (defScope s_law_derivation) := ⟨rfl, rfl, rfl, by decide +kernel, rfl, by decide +kernel, by decide +kernel⟩
theorem bi_law_derivation : BindAs s_law_derivation "_law_derivation" ["_law_rules_here", "_law_start", "_law_steps_here"] := fun _ _ _ _ _ _ us hl => match us, hl with | [_, _, _], _ => rfl
abbrev s_law_names : Stmt := topS 48
theorem sc_law_names : FnScope ["_law_bag_here", "_law_count", "_law_letters", "_law_stem", "_law_k", "_law_spot", "_law_first"] ["_law_bag_here", "_law_count"] (defScope s_law_names) := ⟨rfl, rfl, rfl, by decide +kernel, rfl, by decide +kernel, by decide +kernel⟩
theorem bi_law_names : BindAs s_law_names "_law_names" ["_law_bag_here", "_law_count"] := fun _ _ _ _ _ _ us hl => match us, hl with | [_, _], _ => rfl
abbrev s_law_rules : Stmt := topS 49
theorem sc_law_rules : FnScope ["_law_bag_here", "_law_names_here", "_law_rules_here", "_law_name", "_law_width", "_law_k"] ["_law_bag_here"] (defScope s_law_rules) := ⟨rfl, rfl, rfl, by decide +kernel, rfl, by decide +kernel, by decide +kernel⟩
theorem bi_law_rules : BindAs s_law_rules "_law_rules" ["_law_bag_here"] := fun _ _ _ _ _ _ us hl => match us, hl with | [_], _ => rfl
abbrev s_law_sequence : Stmt := topS 50
theorem sc_law_sequence : FnScope ["_law_bag_here", "_law_rules_here", "_law_most", "_law_names_here", "_law_k"] ["_law_bag_here", "_law_rules_here", "_law_most"] (defScope s_law_sequence) := ⟨rfl, rfl, rfl, by decide +kernel, rfl, by decide +kernel, by decide +kernel⟩
theorem bi_law_sequence : BindAs s_law_sequence "_law_sequence" ["_law_bag_here", "_law_rules_here", "_law_most"] := fun _ _ _ _ _ _ us hl => match us, hl with | [_, _, _], _ => rfl
abbrev s_law_after : Stmt := topS 52
theorem sc_law_after : FnScope ["_law_rules_here", "_law_sequence_here", "_law_step", "_law_position"] ["_law_rules_here", "_law_sequence_here", "_law_step"] (defScope s_law_after) := ⟨rfl, rfl, rfl, by decide +kernel, rfl, by decide +kernel, by decide +kernel⟩
theorem bi_law_after : BindAs s_law_after "_law_after" ["_law_rules_here", "_law_sequence_here", "_law_step"] := fun _ _ _ _ _ _ us hl => match us, hl with | [_, _, _], _ => rfl
abbrev s_law_steps : Stmt := topS 53
theorem sc_law_steps : FnScope ["_law_bag_here", "_law_rules_here", "_law_start", "_law_most", "_law_here", "_law_steps_here", "_law_turn", "_law_every", "_law_joins", "_law_step", "_law_some"] ["_law_bag_here", "_law_rules_here", "_law_start", "_law_most"] (defScope s_law_steps) := ⟨rfl, rfl, rfl, by decide +kernel, rfl, by decide +kernel, by decide +kernel⟩
theorem bi_law_steps : BindAs s_law_steps "_law_steps" ["_law_bag_here", "_law_rules_here", "_law_start", "_law_most"] := fun _ _ _ _ _ _ us hl => match us, hl with | [_, _, _, _], _ => rfl
abbrev s_law_drawn : Stmt := topS 54
theorem sc_law_drawn : FnScope ["_law_bag_here", "_law_most", "_law_rules_here", "_law_start"] ["_law_bag_here", "_law_most"] (defScope s_law_drawn) := ⟨rfl, rfl, rfl, by decide +kernel, rfl, by decide +kernel, by decide +kernel⟩
theorem bi_law_drawn : BindAs s_law_drawn "_law_drawn" ["_law_bag_here", "_law_most"] := fun _ _ _ _ _ _ us hl => match us, hl with | [_, _], _ => rfl
abbrev s_law_end : Stmt := topS 56
theorem sc_law_end : FnScope ["_law_rules_here", "_law_start", "_law_steps_here", "_law_here", "_law_step"] ["_law_rules_here", "_law_start", "_law_steps_here"] (defScope s_law_end) := ⟨rfl, rfl, rfl, by decide +kernel, rfl, by decide +kernel, by decide +kernel⟩
theorem bi_law_end : BindAs s_law_end "_law_end" ["_law_rules_here", "_law_start", "_law_steps_here"] := fun _ _ _ _ _ _ us hl => match us, hl with | [_, _, _], _ => rfl
abbrev sDerivation_end : Stmt := inClass (topS 43) 7
theorem scDerivation_end : FnScope ["self"] ["self"] (defScope sDerivation_end) := ⟨rfl, rfl, rfl, by decide +kernel, rfl, by decide +kernel, by decide +kernel⟩
theorem biDerivation_end : BindM sDerivation_end "end" "Derivation.end" ["self"] := fun _ _ _ _ _ _ us hl => match us, hl with | [_], _ => rfl
abbrev sDerivation_grammar : Stmt := inClass (topS 43) 5
theorem scDerivation_grammar : FnScope ["self"] ["self"] (defScope sDerivation_grammar) := ⟨rfl, rfl, rfl, by decide +kernel, rfl, by decide +kernel, by decide +kernel⟩
theorem biDerivation_grammar : BindM sDerivation_grammar "grammar" "Derivation.grammar" ["self"] := fun _ _ _ _ _ _ us hl => match us, hl with | [_], _ => rfl
abbrev sDerivation_len : Stmt := inClass (topS 43) 2
theorem scDerivation_len : FnScope ["self"] ["self"] (defScope sDerivation_len) := ⟨rfl, rfl, rfl, by decide +kernel, rfl, by decide +kernel, by decide +kernel⟩
theorem biDerivation_len : BindM sDerivation_len "__len__" "Derivation.__len__" ["self"] := fun _ _ _ _ _ _ us hl => match us, hl with | [_], _ => rfl
abbrev sDerivation_repr : Stmt := inClass (topS 43) 3
theorem scDerivation_repr : FnScope ["self"] ["self"] (defScope sDerivation_repr) := ⟨rfl, rfl, rfl, by decide +kernel, rfl, by decide +kernel, by decide +kernel⟩
theorem biDerivation_repr : BindM sDerivation_repr "__repr__" "Derivation.__repr__" ["self"] := fun _ _ _ _ _ _ us hl => match us, hl with | [_], _ => rfl
abbrev sDerivation_sequences : Stmt := inClass (topS 43) 9
theorem scDerivation_sequences : FnScope ["self"] ["self"] (defScope sDerivation_sequences) := ⟨rfl, rfl, rfl, by decide +kernel, rfl, by decide +kernel, by decide +kernel⟩
theorem biDerivation_sequences : BindM sDerivation_sequences "sequences" "Derivation.sequences" ["self"] := fun _ _ _ _ _ _ us hl => match us, hl with | [_], _ => rfl
abbrev sDerivation_start : Stmt := inClass (topS 43) 6
theorem scDerivation_start : FnScope ["self"] ["self"] (defScope sDerivation_start) := ⟨rfl, rfl, rfl, by decide +kernel, rfl, by decide +kernel, by decide +kernel⟩
theorem biDerivation_start : BindM sDerivation_start "start" "Derivation.start" ["self"] := fun _ _ _ _ _ _ us hl => match us, hl with | [_], _ => rfl
abbrev sDerivation_steps : Stmt := inClass (topS 43) 8
theorem scDerivation_steps : FnScope ["self"] ["self"] (defScope sDerivation_steps) := ⟨rfl, rfl, rfl, by decide +kernel, rfl, by decide +kernel, by decide +kernel⟩
theorem biDerivation_steps : BindM sDerivation_steps "steps" "Derivation.steps" ["self"] := fun _ _ _ _ _ _ us hl => match us, hl with | [_], _ => rfl
abbrev ssequence_text : Stmt := topS 33
theorem scsequence_text : FnScope ["sequence"] ["sequence"] (defScope ssequence_text) := ⟨rfl, rfl, rfl, by decide +kernel, rfl, by decide +kernel, by decide +kernel⟩
theorem bisequence_text : BindAs ssequence_text "sequence_text" ["sequence"] := fun _ _ _ _ _ _ us hl => match us, hl with | [_], _ => rfl
abbrev sstep_text : Stmt := topS 34
theorem scstep_text : FnScope ["step"] ["step"] (defScope sstep_text) := ⟨rfl, rfl, rfl, by decide +kernel, rfl, by decide +kernel, by decide +kernel⟩
theorem bistep_text : BindAs sstep_text "step_text" ["step"] := fun _ _ _ _ _ _ us hl => match us, hl with | [_], _ => rfl
abbrev sDerivation_str : Stmt := inClass (topS 43) 4
theorem scDerivation_str : FnScope ["self", "steps", "step"] ["self"] (defScope sDerivation_str) := ⟨rfl, rfl, rfl, by decide +kernel, rfl, by decide +kernel, by decide +kernel⟩
theorem biDerivation_str : BindM sDerivation_str "__str__" "Derivation.__str__" ["self"] := fun _ _ _ _ _ _ us hl => match us, hl with | [_], _ => rfl
abbrev sGrammar_eq : Stmt := inClass (topS 30) 1
theorem scGrammar_eq : FnScope ["self", "other"] ["self", "other"] (defScope sGrammar_eq) := ⟨rfl, rfl, rfl, by decide +kernel, rfl, by decide +kernel, by decide +kernel⟩
theorem biGrammar_eq : BindM sGrammar_eq "__eq__" "Grammar.__eq__" ["self", "other"] := fun _ _ _ _ _ _ us hl => match us, hl with | [_, _], _ => rfl
abbrev s_law_same : Stmt := topS 60
theorem sc_law_same : FnScope ["_law_found", "_law_due", "_law_key", "_law_k"] ["_law_found", "_law_due"] (defScope s_law_same) := ⟨rfl, rfl, rfl, by decide +kernel, rfl, by decide +kernel, by decide +kernel⟩
theorem bi_law_same : BindAs s_law_same "_law_same" ["_law_found", "_law_due"] := fun _ _ _ _ _ _ us hl => match us, hl with | [_, _], _ => rfl
abbrev s_law_is : Stmt := topS 61
theorem sc_law_is : FnScope ["_law_told", "_law_rules_here", "_law_start", "_law_steps_here", "_law_rows", "_law_step", "_law_words", "_law_text", "_law_look"] ["_law_told", "_law_rules_here", "_law_start", "_law_steps_here"] (defScope s_law_is) := ⟨rfl, rfl, rfl, by decide +kernel, rfl, by decide +kernel, by decide +kernel⟩
theorem bi_law_is : BindAs s_law_is "_law_is" ["_law_told", "_law_rules_here", "_law_start", "_law_steps_here"] := fun _ _ _ _ _ _ us hl => match us, hl with | [_, _, _, _], _ => rfl
abbrev s_law_step_error : Stmt := topS 58
theorem sc_law_step_error : FnScope ["_law_rules_here", "_law_sequence_here", "_law_step", "_law_good", "_law_place", "_law_parts"] ["_law_rules_here", "_law_sequence_here", "_law_step"] (defScope s_law_step_error) := ⟨rfl, rfl, rfl, by decide +kernel, rfl, by decide +kernel, by decide +kernel⟩
theorem bi_law_step_error : BindAs s_law_step_error "_law_step_error" ["_law_rules_here", "_law_sequence_here", "_law_step"] := fun _ _ _ _ _ _ us hl => match us, hl with | [_, _, _], _ => rfl
abbrev slaw : Stmt := topS 62
theorem sclaw : FnScope ["_law_script", "_law_bag_here", "_law_turn", "_law_rules_here", "_law_start", "_law_steps_here", "_law_told", "_law_here", "_law_step", "_law_k", "_law_due", "_law_found", "_law_full", "_law_words"] ["_law_script"] (defScope slaw) := ⟨rfl, rfl, rfl, by decide +kernel, rfl, by decide +kernel, by decide +kernel⟩
theorem bilaw : BindAs slaw "law" ["_law_script"] := fun _ _ _ _ _ _ us hl => match us, hl with | [_], _ => rfl
abbrev s_law_try : Stmt := topS 59
theorem sc_law_try : FnScope ["_law_ask", "e"] ["_law_ask"] (defScope s_law_try) := ⟨rfl, rfl, rfl, by decide +kernel, rfl, by decide +kernel, by decide +kernel⟩
theorem bi_law_try : BindAs s_law_try "_law_try" ["_law_ask"] := fun _ _ _ _ _ _ us hl => match us, hl with | [_], _ => rfl
abbrev sInvalidName : Stmt := inClass (topS 4) 0
abbrev sInvalidRule : Stmt := inClass (topS 6) 0
abbrev sInvalidSequence : Stmt := inClass (topS 7) 0
abbrev sInvalidStep : Stmt := inClass (topS 8) 0
abbrev sLimitExceeded : Stmt := inClass (topS 12) 0
abbrev sNoMatch : Stmt := inClass (topS 10) 0
abbrev sOutOfRange : Stmt := inClass (topS 21) 0
abbrev sTerminalSymbol : Stmt := inClass (topS 9) 0
abbrev sUnknownSymbol : Stmt := inClass (topS 20) 0
structure Txt (P : Program) (w : World) (K : PySem.W.Frag) (mg : Str → Option Value) (base : Heap) (C_Derivation C_Grammar C_InvalidName C_InvalidRule C_InvalidSequence C_InvalidStep C_LimitExceeded C_NoMatch C_OutOfRange C_TerminalSymbol C_UnknownSymbol C_DuplicateName C_UnknownUser C_MissingWeight C_RuleMismatch C_StepFailed C_StepInUse C_InvalidPath C_InvalidPoint C_Blocked C_InvalidFile C_SunderError C_NotFound : Addr) : Prop where
  d_Grammar_rules : TxM K C_Grammar "rules" "Grammar.rules" sGrammar_rules
  d_check_sequence : Tx K mg "check_sequence" scheck_sequence
  d_check_step : Tx K mg "check_step" scheck_step
  d_Grammar_expansion : TxM K C_Grammar "expansion" "Grammar.expansion" sGrammar_expansion
  d_check_position : Tx K mg "check_position" scheck_position
  d_contract_at : Tx K mg "contract_at" scontract_at
  d_expand_at : Tx K mg "expand_at" sexpand_at
  d_sequence_after : Tx K mg "sequence_after" ssequence_after
  d_Derivation_init : TxV K mg "Derivation" C_Derivation "Derivation.__init__" sDerivation_init
  d_Derivation_contracted : TxM K C_Derivation "contracted" "Derivation.contracted" sDerivation_contracted
  d_Derivation_expanded : TxM K C_Derivation "expanded" "Derivation.expanded" sDerivation_expanded
  d_is_name : Tx K mg "is_name" sis_name
  d_is_rule : Tx K mg "is_rule" sis_rule
  d_Grammar_init : TxI K mg "Grammar" C_Grammar "Grammar.__init__" sGrammar_init
  d__law_pull : Tx K mg "_law_pull" s_law_pull
  d__law_of : Tx K mg "_law_of" s_law_of
  d__law_possible : Tx K mg "_law_possible" s_law_possible
  d__law_any_step : Tx K mg "_law_any_step" s_law_any_step
  d__law_bag : Tx K mg "_law_bag" s_law_bag
  d__law_derivation : Tx K mg "_law_derivation" s_law_derivation
  d__law_names : Tx K mg "_law_names" s_law_names
  d__law_rules : Tx K mg "_law_rules" s_law_rules
  d__law_sequence : Tx K mg "_law_sequence" s_law_sequence
  d__law_after : Tx K mg "_law_after" s_law_after
  d__law_steps : Tx K mg "_law_steps" s_law_steps
  d__law_drawn : Tx K mg "_law_drawn" s_law_drawn
  d__law_end : Tx K mg "_law_end" s_law_end
  d_Derivation_end : TxM K C_Derivation "end" "Derivation.end" sDerivation_end
  d_Derivation_grammar : TxM K C_Derivation "grammar" "Derivation.grammar" sDerivation_grammar
  d_Derivation_len : TxM K C_Derivation "__len__" "Derivation.__len__" sDerivation_len
  d_Derivation_repr : TxM K C_Derivation "__repr__" "Derivation.__repr__" sDerivation_repr
  d_Derivation_sequences : TxM K C_Derivation "sequences" "Derivation.sequences" sDerivation_sequences
  d_Derivation_start : TxM K C_Derivation "start" "Derivation.start" sDerivation_start
  d_Derivation_steps : TxM K C_Derivation "steps" "Derivation.steps" sDerivation_steps
  d_sequence_text : Tx K mg "sequence_text" ssequence_text
  d_step_text : Tx K mg "step_text" sstep_text
  d_Derivation_str : TxM K C_Derivation "__str__" "Derivation.__str__" sDerivation_str
  d_Grammar_eq : TxM K C_Grammar "__eq__" "Grammar.__eq__" sGrammar_eq
  d__law_same : Tx K mg "_law_same" s_law_same
  d__law_is : Tx K mg "_law_is" s_law_is
  d__law_step_error : Tx K mg "_law_step_error" s_law_step_error
  cl_Derivation : Cls K C_Derivation
  cl_Grammar : Cls K C_Grammar
  nf_Derivation_actions : NoAttr K C_Derivation "actions"
  nf_Derivation_base : NoAttr K C_Derivation "base"
  nf_Derivation_states : NoAttr K C_Derivation "states"
  nf_Grammar_table : NoAttr K C_Grammar "table"
  no_Grammar : L2.NeO K C_Grammar
  io_Derivation : IsiO K C_Derivation
  m_Derivation : mg "Derivation" = some (.ref C_Derivation)
  io_Grammar : IsiO K C_Grammar
  m_Grammar : mg "Grammar" = some (.ref C_Grammar)
  e_InvalidName : Erc P w K mg base "InvalidName" C_InvalidName [("word", .inr "invalidname"), ("name", .inl 0)] 1
  e_InvalidRule : Erc P w K mg base "InvalidRule" C_InvalidRule [("word", .inr "invalidrule"), ("symbol", .inl 0)] 1
  e_InvalidSequence : Erc P w K mg base "InvalidSequence" C_InvalidSequence [("word", .inr "invalidsequence"), ("position", .inl 0)] 1
  e_InvalidStep : Erc P w K mg base "InvalidStep" C_InvalidStep [("word", .inr "invalidstep")] 0
  e_LimitExceeded : Erc P w K mg base "LimitExceeded" C_LimitExceeded [("word", .inr "limitexceeded"), ("limit", .inl 0)] 1
  e_NoMatch : Erc P w K mg base "NoMatch" C_NoMatch [("word", .inr "nomatch"), ("position", .inl 0)] 1
  e_OutOfRange : Erc P w K mg base "OutOfRange" C_OutOfRange [("word", .inr "outofrange"), ("index", .inl 0)] 1
  e_TerminalSymbol : Erc P w K mg base "TerminalSymbol" C_TerminalSymbol [("word", .inr "terminalsymbol"), ("position", .inl 0)] 1
  e_UnknownSymbol : Erc P w K mg base "UnknownSymbol" C_UnknownSymbol [("word", .inr "unknownsymbol"), ("name", .inl 0)] 1
  d__law_try : Tx K mg "_law_try" s_law_try
  n_InvalidName : mg "InvalidName" = some (.ref C_InvalidName)
  n_DuplicateName : mg "DuplicateName" = some (.ref C_DuplicateName)
  n_UnknownSymbol : mg "UnknownSymbol" = some (.ref C_UnknownSymbol)
  n_UnknownUser : mg "UnknownUser" = some (.ref C_UnknownUser)
  n_InvalidRule : mg "InvalidRule" = some (.ref C_InvalidRule)
  n_MissingWeight : mg "MissingWeight" = some (.ref C_MissingWeight)
  n_RuleMismatch : mg "RuleMismatch" = some (.ref C_RuleMismatch)
  n_InvalidSequence : mg "InvalidSequence" = some (.ref C_InvalidSequence)
  n_TerminalSymbol : mg "TerminalSymbol" = some (.ref C_TerminalSymbol)
  n_NoMatch : mg "NoMatch" = some (.ref C_NoMatch)
  n_StepFailed : mg "StepFailed" = some (.ref C_StepFailed)
  n_StepInUse : mg "StepInUse" = some (.ref C_StepInUse)
  n_InvalidPath : mg "InvalidPath" = some (.ref C_InvalidPath)
  n_InvalidPoint : mg "InvalidPoint" = some (.ref C_InvalidPoint)
  n_OutOfRange : mg "OutOfRange" = some (.ref C_OutOfRange)
  n_LimitExceeded : mg "LimitExceeded" = some (.ref C_LimitExceeded)
  n_Blocked : mg "Blocked" = some (.ref C_Blocked)
  n_InvalidFile : mg "InvalidFile" = some (.ref C_InvalidFile)
  n_SunderError : mg "SunderError" = some (.ref C_SunderError)
  n_NotFound : mg "NotFound" = some (.ref C_NotFound)
  tr_InvalidName : Trc K (lTry C_InvalidName C_DuplicateName C_UnknownSymbol C_UnknownUser C_InvalidRule C_MissingWeight C_RuleMismatch C_InvalidSequence C_TerminalSymbol C_NoMatch C_StepFailed C_StepInUse C_InvalidPath C_InvalidPoint C_OutOfRange C_LimitExceeded C_Blocked C_InvalidFile C_SunderError C_NotFound) C_InvalidName (EL.EK.one "name")
  tr_InvalidRule : Trc K (lTry C_InvalidName C_DuplicateName C_UnknownSymbol C_UnknownUser C_InvalidRule C_MissingWeight C_RuleMismatch C_InvalidSequence C_TerminalSymbol C_NoMatch C_StepFailed C_StepInUse C_InvalidPath C_InvalidPoint C_OutOfRange C_LimitExceeded C_Blocked C_InvalidFile C_SunderError C_NotFound) C_InvalidRule (EL.EK.one "symbol")
  tr_InvalidSequence : Trc K (lTry C_InvalidName C_DuplicateName C_UnknownSymbol C_UnknownUser C_InvalidRule C_MissingWeight C_RuleMismatch C_InvalidSequence C_TerminalSymbol C_NoMatch C_StepFailed C_StepInUse C_InvalidPath C_InvalidPoint C_OutOfRange C_LimitExceeded C_Blocked C_InvalidFile C_SunderError C_NotFound) C_InvalidSequence (EL.EK.one "position")
  tr_InvalidStep : Trc K (lTry C_InvalidName C_DuplicateName C_UnknownSymbol C_UnknownUser C_InvalidRule C_MissingWeight C_RuleMismatch C_InvalidSequence C_TerminalSymbol C_NoMatch C_StepFailed C_StepInUse C_InvalidPath C_InvalidPoint C_OutOfRange C_LimitExceeded C_Blocked C_InvalidFile C_SunderError C_NotFound) C_InvalidStep (EL.EK.zero)
  tr_LimitExceeded : Trc K (lTry C_InvalidName C_DuplicateName C_UnknownSymbol C_UnknownUser C_InvalidRule C_MissingWeight C_RuleMismatch C_InvalidSequence C_TerminalSymbol C_NoMatch C_StepFailed C_StepInUse C_InvalidPath C_InvalidPoint C_OutOfRange C_LimitExceeded C_Blocked C_InvalidFile C_SunderError C_NotFound) C_LimitExceeded (EL.EK.one "limit")
  tr_NoMatch : Trc K (lTry C_InvalidName C_DuplicateName C_UnknownSymbol C_UnknownUser C_InvalidRule C_MissingWeight C_RuleMismatch C_InvalidSequence C_TerminalSymbol C_NoMatch C_StepFailed C_StepInUse C_InvalidPath C_InvalidPoint C_OutOfRange C_LimitExceeded C_Blocked C_InvalidFile C_SunderError C_NotFound) C_NoMatch (EL.EK.one "position")
  tr_OutOfRange : Trc K (lTry C_InvalidName C_DuplicateName C_UnknownSymbol C_UnknownUser C_InvalidRule C_MissingWeight C_RuleMismatch C_InvalidSequence C_TerminalSymbol C_NoMatch C_StepFailed C_StepInUse C_InvalidPath C_InvalidPoint C_OutOfRange C_LimitExceeded C_Blocked C_InvalidFile C_SunderError C_NotFound) C_OutOfRange (EL.EK.one "index")
  tr_TerminalSymbol : Trc K (lTry C_InvalidName C_DuplicateName C_UnknownSymbol C_UnknownUser C_InvalidRule C_MissingWeight C_RuleMismatch C_InvalidSequence C_TerminalSymbol C_NoMatch C_StepFailed C_StepInUse C_InvalidPath C_InvalidPoint C_OutOfRange C_LimitExceeded C_Blocked C_InvalidFile C_SunderError C_NotFound) C_TerminalSymbol (EL.EK.one "position")
  tr_UnknownSymbol : Trc K (lTry C_InvalidName C_DuplicateName C_UnknownSymbol C_UnknownUser C_InvalidRule C_MissingWeight C_RuleMismatch C_InvalidSequence C_TerminalSymbol C_NoMatch C_StepFailed C_StepInUse C_InvalidPath C_InvalidPoint C_OutOfRange C_LimitExceeded C_Blocked C_InvalidFile C_SunderError C_NotFound) C_UnknownSymbol (EL.EK.one "name")
  z_all : mg "all" = none
  z_bool : mg "bool" = none
  z_dict : mg "dict" = none
  z_enumerate : mg "enumerate" = none
  z_int : mg "int" = none
  z_isinstance : mg "isinstance" = none
  z_len : mg "len" = none
  z_list : mg "list" = none
  z_range : mg "range" = none
  z_repr : mg "repr" = none
  z_sorted : mg "sorted" = none
  z_str : mg "str" = none
  z_tuple : mg "tuple" = none
  c_LETTERS : ∃ t, mg "LETTERS" = some (.str "abcdefghijklmnopqrstuvwxyz" t)
  c_MAX_EXPANSION : ∃ t, mg "MAX_EXPANSION" = some (.int 4 t)
  c_MAX_NAME : ∃ t, mg "MAX_NAME" = some (.int 6 t)
  c_MAX_STEPS : ∃ t, mg "MAX_STEPS" = some (.int 120 t)
  c_MAX_SYMBOLS : ∃ t, mg "MAX_SYMBOLS" = some (.int 8 t)
section
variable {P : Program} {w : World} {K : PySem.W.Frag} {mg : Str → Option Value} {base : Heap} {C_Derivation C_Grammar C_InvalidName C_InvalidRule C_InvalidSequence C_InvalidStep C_LimitExceeded C_NoMatch C_OutOfRange C_TerminalSymbol C_UnknownSymbol C_DuplicateName C_UnknownUser C_MissingWeight C_RuleMismatch C_StepFailed C_StepInUse C_InvalidPath C_InvalidPoint C_Blocked C_InvalidFile C_SunderError C_NotFound : Addr}
theorem ok_law_try (T : Txt P w K mg base C_Derivation C_Grammar C_InvalidName C_InvalidRule C_InvalidSequence C_InvalidStep C_LimitExceeded C_NoMatch C_OutOfRange C_TerminalSymbol C_UnknownSymbol C_DuplicateName C_UnknownUser C_MissingWeight C_RuleMismatch C_StepFailed C_StepInUse C_InvalidPath C_InvalidPoint C_Blocked C_InvalidFile C_SunderError C_NotFound) : TryD P w K mg base (lTry C_InvalidName C_DuplicateName C_UnknownSymbol C_UnknownUser C_InvalidRule C_MissingWeight C_RuleMismatch C_InvalidSequence C_TerminalSymbol C_NoMatch C_StepFailed C_StepInUse C_InvalidPath C_InvalidPoint C_OutOfRange C_LimitExceeded C_Blocked C_InvalidFile C_SunderError C_NotFound) := by
  obtain ⟨g, fd, F, m⟩ := T.d__law_try.ex
  have bb := F.binds bi_law_try
  have kp := F.kp
  obtain ⟨oc, od, kV, doc, pm, an, cdv, ct, osl, rfl, lk, hcd⟩ := F.ex
  exact ⟨g, _, _, _, _, _, _, _, _, _, _, _, _, m, kp, lk, hcd, bb, sc_law_try, .inl rfl, fun X q h1 h2 h3 h4 h5 => by
    subst h1; subst h2; subst h3; subst h4; subst h5
    exact EL.try_gives sc_law_try (fun s H => (.cons (EL.test_four ⟨by rfl, by decide, .inl T.n_InvalidName⟩ ⟨by rfl, by decide, .inl T.n_DuplicateName⟩ ⟨by rfl, by decide, .inl T.n_UnknownSymbol⟩ ⟨by rfl, by decide, .inl T.n_UnknownUser⟩) rfl rfl (fun a oe cls d pn hz hf => EL.su_one hz hf (pv 1) (pv 1))
    (.cons (EL.test_three ⟨by rfl, by decide, .inl T.n_InvalidRule⟩ ⟨by rfl, by decide, .inl T.n_MissingWeight⟩ ⟨by rfl, by decide, .inl T.n_RuleMismatch⟩) rfl rfl (fun a oe cls d pn hz hf => EL.su_one hz hf (pv 1) (pv 1))
    (.cons (EL.test_three ⟨by rfl, by decide, .inl T.n_InvalidSequence⟩ ⟨by rfl, by decide, .inl T.n_TerminalSymbol⟩ ⟨by rfl, by decide, .inl T.n_NoMatch⟩) rfl rfl (fun a oe cls d pn hz hf => EL.su_one hz hf (pv 1) (pv 1))
    (.cons (EL.test_one ⟨by rfl, by decide, .inl T.n_StepFailed⟩) rfl rfl (fun a oe cls d pn hz hf => EL.su_two hz hf (pv 1) (pv 1) (pv 1))
    (.cons (EL.test_four ⟨by rfl, by decide, .inl T.n_StepInUse⟩ ⟨by rfl, by decide, .inl T.n_InvalidPath⟩ ⟨by rfl, by decide, .inl T.n_InvalidPoint⟩ ⟨by rfl, by decide, .inl T.n_OutOfRange⟩) rfl rfl (fun a oe cls d pn hz hf => EL.su_one hz hf (pv 1) (pv 1))
    (.cons (EL.test_one ⟨by rfl, by decide, .inl T.n_LimitExceeded⟩) rfl rfl (fun a oe cls d pn hz hf => EL.su_one hz hf (pv 1) (pv 1))
    (.cons (EL.test_one ⟨by rfl, by decide, .inl T.n_Blocked⟩) rfl rfl (fun a oe cls d pn hz hf => EL.su_one hz hf (pv 1) (pv 1))
    (.cons (EL.test_one ⟨by rfl, by decide, .inl T.n_InvalidFile⟩) rfl rfl (fun a oe cls d pn hz hf => EL.su_one hz hf (pv 1) (pv 1))
    (.cons (EL.test_two ⟨by rfl, by decide, .inl T.n_SunderError⟩ ⟨by rfl, by decide, .inl T.n_NotFound⟩) rfl rfl (fun a oe cls d pn hz hf => EL.su_zero hz hf (pv 1))
    EL.HdsA.nil))))))))))⟩
/-- Grammar_rules -/
theorem okGrammar_rules (T : Txt P w K mg base C_Derivation C_Grammar C_InvalidName C_InvalidRule C_InvalidSequence C_InvalidStep C_LimitExceeded C_NoMatch C_OutOfRange C_TerminalSymbol C_UnknownSymbol C_DuplicateName C_UnknownUser C_MissingWeight C_RuleMismatch C_StepFailed C_StepInUse C_InvalidPath C_InvalidPoint C_Blocked C_InvalidFile C_SunderError C_NotFound) : Mg CX0 P w K mg base C_Grammar "rules" 1 1 (spRules C_Grammar) := by
  refine dmet_ok T.cl_Grammar T.d_Grammar_rules scGrammar_rules biGrammar_rules (fun f Z cdv A outer s H E hr => (have hu := hu100 hr; have nd := scGrammar_rules.nd; (dss_one (ds_ret (de_callTy call_dictD cd_dict (by rfl) T.z_dict (by decide +kernel) (da_cons (de_fld T.cl_Grammar T.nf_Grammar_table (dv 0)) da_nil)))))) ?_
  rintro ds Q E ⟨r, rfl, hq⟩
  refine ⟨_, _, _, rfl, rfl, ?_⟩
  exact hq

/-- check_sequence -/
theorem okcheck_sequence (T : Txt P w K mg base C_Derivation C_Grammar C_InvalidName C_InvalidRule C_InvalidSequence C_InvalidStep C_LimitExceeded C_NoMatch C_OutOfRange C_TerminalSymbol C_UnknownSymbol C_DuplicateName C_UnknownUser C_MissingWeight C_RuleMismatch C_StepFailed C_StepInUse C_InvalidPath C_InvalidPoint C_Blocked C_InvalidFile C_SunderError C_NotFound) (G_Grammar_rules : Mg CX0 P w K mg base C_Grammar "rules" 1 1 (spRules C_Grammar)) : CalX P w K mg base "check_sequence" 3 2 (spCheckSeq C_Grammar C_InvalidSequence) := by
  have E_InvalidSequence := T.e_InvalidSequence
  refine dcal_okX T.d_check_sequence sccheck_sequence bicheck_sequence (fun f F0 H0 W w' lk cdv A outer s H E hr tk => (have hu := hu100 hr; have nd := sccheck_sequence.nd; (dss_cons (ds_if (dt_cmp (oo_eq hu) od_eq (de_callB co_len cd_len (by rfl) T.z_len (by decide +kernel) (da_cons (dv 1) da_nil)) de_int (nomark _)) (dss_one (ds_raise rfl tk E_InvalidSequence (by decide) (hr.mono (by decide)) (da_cons (de_neg de_int) da_nil))) dss_nil)
    (dss_cons (dset 2 nd (dmethG0 G_Grammar_rules (hr.mono (by decide)) go0 (dv 0)))
    (dss_one (ds_wp [0, 1, 2, 3] (dforX (passes_of rfl) rfl (di_wp [0, 3] (di_rng1 (by rfl) T.z_range (da_cons (de_callB co_len cd_len (by rfl) T.z_len (by decide +kernel) (da_cons (dv 1) da_nil)) da_nil))) (dgn 3 nd) (dss_wp [0, 3] (dss_one (ds_if (dt_cmp (oo_nin hu) od_nin (dix 1 hu (dv 3)) (dv 2) (by rfl)) (dss_one (ds_raise rfl tk E_InvalidSequence (by decide) (hr.mono (by decide)) (da_cons (dv 3) da_nil))) dss_nil)))))))))) ?_
  rintro ds Q E ⟨r, s, rfl, hl, hq⟩
  have e0 := len_encS s
  refine eqI_go ⟨_, rfl, iteP (fun h => ?_) (fun h => ?_)⟩
  · have hs : s = [] := List.eq_nil_of_length_eq_zero (by omega)
    subst hs
    exact ⟨rfl, hq⟩
  · have hs : s.isEmpty = false := by cases s with | nil => exact absurd rfl h | cons _ _ => rfl
    unfold seqBad at hq
    rw [hs] at hq
    replace hq : match (badAt (namesR r) s 0).map Int.ofNat with | none => Q DV.non | some i => E C_InvalidSequence ["word", "position"] [.str "invalidsequence", .int i] := hq
    refine ⟨⟨_, _, rfl, rfl⟩, rfl, r, rfl, by omega, by omega, ?_⟩
    rw [e0]
    refine walk_range (fun k ρ => ρ = [none, some (Lv.val (encS s)), some (Lv.val (encR r)), none] ∧ badAt (namesR r) s 0 = badAt (namesR r) (s.drop k) k) ⟨rfl, rfl⟩ ?_ ?_
    · rintro ρ ⟨rfl, hb⟩
      have hb : badAt (namesR r) s 0 = badAt (namesR r) (s.drop s.length) s.length := hb
      rw [List.drop_length] at hb
      rw [hb] at hq
      exact hq
    · rintro k ρ K' hk hn hc _ _ ⟨rfl, hb⟩
      have hx : (s.map DV.str)[k]? = some (.str s[k]) := by rw [List.getElem?_map, List.getElem?_eq_getElem hk]; rfl
      rw [List.drop_eq_getElem_cons hk] at hb
      refine ⟨trivial, _, _, rfl, atI_nat hx, inR_go ⟨_, rfl, iteQ (fun hm => ?_) (fun hm => ?_)⟩⟩
      · have e : badAt (namesR r) (s[k] :: s.drop (k + 1)) k = some k := by unfold badAt; rw [if_neg hm]
        rw [hb, e] at hq
        exact ⟨rfl, hq⟩
      · have e : badAt (namesR r) (s[k] :: s.drop (k + 1)) k = badAt (namesR r) (s.drop (k + 1)) (k + 1) := by rw [badAt]; rw [if_pos hm]
        exact hn _ ⟨rfl, hb.trans e⟩

/-- check_step -/
theorem okcheck_step (T : Txt P w K mg base C_Derivation C_Grammar C_InvalidName C_InvalidRule C_InvalidSequence C_InvalidStep C_LimitExceeded C_NoMatch C_OutOfRange C_TerminalSymbol C_UnknownSymbol C_DuplicateName C_UnknownUser C_MissingWeight C_RuleMismatch C_StepFailed C_StepInUse C_InvalidPath C_InvalidPoint C_Blocked C_InvalidFile C_SunderError C_NotFound) : CalX P w K mg base "check_step" 3 1 (spCheckStep C_InvalidStep) := by
  have E_InvalidStep := T.e_InvalidStep
  refine dcal_okX T.d_check_step sccheck_step bicheck_step (fun f F0 H0 W w' lk cdv A outer s H E hr tk => (have hu := hu100 hr; have nd := sccheck_step.nd; (dss_cons (ds_if (DW.dt (dw_or (DW.dt (dw_and (dt_cmp (oo_eq hu) od_eq (de_callB co_len cd_len (by rfl) T.z_len (by decide +kernel) (da_cons (dv 0) da_nil)) de_int (nomark _)) (dw_and1 (dt_cmp (oo_eq hu) od_eq (dix 0 hu de_int) de_str (nomark _))))) (dw_or1 (DW.dt (dw_and (dt_cmp (oo_eq hu) od_eq (de_callB co_len cd_len (by rfl) T.z_len (by decide +kernel) (da_cons (dv 0) da_nil)) de_int (nomark _)) (dw_and1 (dt_cmp (oo_eq hu) od_eq (dix 0 hu de_int) de_str (nomark _)))))))) (dss_one ds_retN) dss_nil)
    (dss_one (ds_raise0 rfl tk E_InvalidStep (hr.mono (by decide))))))) ?_
  rintro ds Q E ⟨xs, rfl, hx, hq⟩
  rcases hx with rfl | ⟨z, ys, rfl⟩
  · exact eqI_go ⟨_, rfl, eqI_go ⟨_, rfl, hq⟩⟩
  · have n0 : atI (DV.str z :: ys) 0 = some (DV.str z) := atI_nat (j := 0) rfl
    have e : ∀ w : Str, decide (V.str z = V.str w) = decide (z = w) := fun w => vstr_eq z w
    match ys with
    | [] => exact eqI_go ⟨_, rfl, eqI_go ⟨_, rfl, hq⟩⟩
    | [a] =>
      refine eqI_go ⟨_, rfl, trivial, 0, _, rfl, n0, eqT_go ⟨_, rfl, iteP (fun h => ?_) (fun h => ?_)⟩⟩
      · have hb : stepB [.str z, a] = true := decide_eq_true h
        rw [hb] at hq; exact hq
      · have hb : stepB [.str z, a] = false := decide_eq_false h
        rw [hb] at hq
        exact eqI_go ⟨_, rfl, hq⟩
    | [a, c] =>
      refine eqI_go ⟨_, rfl, eqI_go ⟨_, rfl, trivial, 0, _, rfl, n0, eqT_go ⟨_, rfl, iteP (fun h => ?_) (fun h => ?_)⟩⟩⟩
      · have hb : stepB [.str z, a, c] = true := decide_eq_true h
        rw [hb] at hq; exact hq
      · have hb : stepB [.str z, a, c] = false := decide_eq_false h
        rw [hb] at hq; exact hq
    | a :: c :: d :: ys =>
      have hb : stepB (.str z :: a :: c :: d :: ys) = false := rfl
      rw [hb] at hq
      refine eqI_go ⟨_, rfl, iteN ?_ (eqI_go ⟨_, rfl, iteN ?_ hq⟩)⟩
      · simp only [List.length_cons]; omega
      · simp only [List.length_cons]; omega

/-- Grammar_expansion -/
theorem okGrammar_expansion (T : Txt P w K mg base C_Derivation C_Grammar C_InvalidName C_InvalidRule C_InvalidSequence C_InvalidStep C_LimitExceeded C_NoMatch C_OutOfRange C_TerminalSymbol C_UnknownSymbol C_DuplicateName C_UnknownUser C_MissingWeight C_RuleMismatch C_StepFailed C_StepInUse C_InvalidPath C_InvalidPoint C_Blocked C_InvalidFile C_SunderError C_NotFound) : Mg (L2.CX P w) P w K mg base C_Grammar "expansion" 3 2 (spExpansionX C_Grammar C_UnknownSymbol) := by
  have E_UnknownSymbol := T.e_UnknownSymbol
  refine dmet_okX T.cl_Grammar T.d_Grammar_expansion scGrammar_expansion biGrammar_expansion (fun f F0 H0 W w' lk cdv A outer s H E hr tk => (have hu := hu100 hr; have nd := scGrammar_expansion.nd; (dss_cons (ds_if (dt_cmp (oo_nin hu) od_nin (dv 1) (de_fld T.cl_Grammar T.nf_Grammar_table (dv 0)) (by rfl)) (dss_one (ds_raise rfl tk E_UnknownSymbol (by decide) (hr.mono (by decide)) (da_cons (dv 1) da_nil))) dss_nil)
    (dss_one (ds_ret (de_ix (oo_ix hu) od_ix (de_fld T.cl_Grammar T.nf_Grammar_table (dv 0)) (dv 1))))))) ?_
  rintro ds Q E ⟨r, x, rfl, hq⟩
  refine ⟨_, _, _, rfl, rfl, ?_⟩
  refine inR_go ?_
  refine ⟨_, rfl, iteQ (fun n => ?_) fun hm => ?_⟩
  · rw [if_neg n] at hq
    exact ⟨rfl, hq⟩
  · rw [if_pos hm] at hq
    refine ⟨_, _, _, rfl, rfl, ?_⟩
    exact ixR_go hm hq

/-- check_position -/
theorem okcheck_position (T : Txt P w K mg base C_Derivation C_Grammar C_InvalidName C_InvalidRule C_InvalidSequence C_InvalidStep C_LimitExceeded C_NoMatch C_OutOfRange C_TerminalSymbol C_UnknownSymbol C_DuplicateName C_UnknownUser C_MissingWeight C_RuleMismatch C_StepFailed C_StepInUse C_InvalidPath C_InvalidPoint C_Blocked C_InvalidFile C_SunderError C_NotFound) : CalX P w K mg base "check_position" 3 2 (spCheckPosX C_OutOfRange) := by
  have E_OutOfRange := T.e_OutOfRange
  refine dcal_okX T.d_check_position sccheck_position bicheck_position (fun f F0 H0 W w' lk cdv A outer s H E hr tk => (have hu := hu100 hr; have nd := sccheck_position.nd; (dss_one (ds_if (dt_not (dt_chain op_le od_ib (oo_ltA hu) od_ltA de_int (dv 1) (de_callB co_len cd_len (by rfl) T.z_len (by decide +kernel) (da_cons (dv 0) da_nil)))) (dss_one (ds_raise rfl tk E_OutOfRange (by decide) (hr.mono (by decide)) (da_cons (dv 1) da_nil))) dss_nil)))) ?_
  rintro ds Q E ⟨s, i, rfl, hq⟩
  have e0 := len_encS s
  by_cases h0 : 0 ≤ i
  · refine ⟨_, rfl, iteY (show (0 : Int) ≤ i from h0) ?_⟩
    by_cases h1 : i < s.length
    · rw [if_pos ⟨h0, h1⟩] at hq
      exact ⟨_, rfl, iteQ (fun h => absurd (show i < ((s.map DV.str).length : Int) by omega) h) (fun _ => hq)⟩
    · rw [if_neg (fun c => h1 c.2)] at hq
      refine ⟨_, rfl, iteQ (fun _ => ?_) (fun h => absurd (show i < ((s.map DV.str).length : Int) from h) (by omega))⟩
      exact ⟨rfl, hq⟩
  · rw [if_neg (fun c => h0 c.1)] at hq
    refine ⟨_, rfl, iteN (show ¬ (0 : Int) ≤ i from h0) ?_⟩
    exact ⟨_, rfl, rfl, hq⟩

/-- contract_at -/
theorem okcontract_at (T : Txt P w K mg base C_Derivation C_Grammar C_InvalidName C_InvalidRule C_InvalidSequence C_InvalidStep C_LimitExceeded C_NoMatch C_OutOfRange C_TerminalSymbol C_UnknownSymbol C_DuplicateName C_UnknownUser C_MissingWeight C_RuleMismatch C_StepFailed C_StepInUse C_InvalidPath C_InvalidPoint C_Blocked C_InvalidFile C_SunderError C_NotFound) (G_Grammar_expansion : Mg (L2.CX P w) P w K mg base C_Grammar "expansion" 3 2 (spExpansionX C_Grammar C_UnknownSymbol)) (G_check_position : CalX P w K mg base "check_position" 3 2 (spCheckPosX C_OutOfRange)) : CalX P w K mg base "contract_at" 4 4 (spContractAtX C_Grammar C_InvalidStep C_OutOfRange C_TerminalSymbol C_UnknownSymbol C_NoMatch) := by
  have E_NoMatch := T.e_NoMatch
  refine dcal_okX T.d_contract_at sccontract_at bicontract_at (fun f F0 H0 W w' lk cdv A outer s H E hr tk => (have hu := hu100 hr; have nd := sccontract_at.nd; (dss_cons (ds_expr (dcallG (CalX.g G_check_position) (hr.mono (by decide)) (goX tk) (da_cons (dv 1) (da_cons (dv 2) da_nil))))
    (dss_cons (dset 4 nd (dmethG G_Grammar_expansion (hr.mono (by decide)) (goX tk) (dv 0) (da_cons (dv 3) da_nil)))
    (dss_cons (ds_if (DW.dt (dw_or (dt_cmp (oo_eq hu) od_eq (dv 4) (de_tup da_nil) (nomark _)) (dw_or1 (dt_cmp (oo_ne hu) od_ne (de_slice oo_sl od_sl (dv 1) (do_some (dv 2)) (do_some (de_op op_add od_addI (dv 2) (de_callB co_len cd_len (by rfl) T.z_len (by decide +kernel) (da_cons (dv 4) da_nil))))) (dv 4) (nomark _))))) (dss_one (ds_raise rfl tk E_NoMatch (by decide) (hr.mono (by decide)) (da_cons (dv 2) da_nil))) dss_nil)
    (dss_one (ds_ret (de_op oo_add od_add (de_op oo_add od_add (de_slice oo_sl od_sl (dv 1) do_none (do_some (dv 2))) (de_tup (da_cons (dv 3) da_nil))) (de_slice oo_sl od_sl (dv 1) (do_some (de_op op_add od_addI (dv 2) (de_callB co_len cd_len (by rfl) T.z_len (by decide +kernel) (da_cons (dv 4) da_nil)))) do_none))))))))) ?_
  rintro ds Q E ⟨r, s, i, x, rfl, g, hs, hq⟩
  have e0 := len_encS s
  refine ⟨rfl, s, i, rfl, ?_⟩
  by_cases hi : 0 ≤ i ∧ i < s.length
  · rw [if_pos hi]
    obtain ⟨p, rfl⟩ : ∃ p : Nat, i = p := ⟨i.toNat, by omega⟩
    have hp : p < s.length := by omega
    rw [outCo_in hp] at hq
    refine ⟨⟨_, _, rfl, rfl⟩, rfl, r, _, rfl, ?_⟩
    by_cases hm : ¬ x ∈ namesR r
    · rw [if_neg hm] at hq ⊢
      exact hq
    have hm := Decidable.not_not.mp hm
    rw [if_pos hm] at hq ⊢
    obtain ⟨a1, a2, a3⟩ := g.get hm
    refine ⟨Nat.zero_le _, eqS_nil (g.strs a3) ?_⟩
    refine ⟨_, rfl, ite2 (fun h => ?_) (fun h => ?_)⟩
    · have h : (getR r x).isEmpty = true := h
      have : matchAt r s p x = false := by unfold matchAt; rw [h]; rfl
      rw [this] at hq
      exact ⟨rfl, hq⟩
    · have h : ¬ (getR r x).isEmpty = true := h
      have eb : matchAt r s p x = decide ((s.drop p).take (getR r x).length = getR r x) := by unfold matchAt; rw [Bool.eq_false_iff.mpr h]; rfl
      have el := len_encS (getR r x)
      have hl := hs.2.2
      rw [eb] at hq
      have e2 : ((p : Int) + (((getR r x).map DV.str).length : Nat)) = ((p + (getR r x).length : Nat) : Int) := by rw [el]; omega
      refine ⟨_, rfl, _, rfl, ?_⟩
      show fSl (encS s) (some (p : Int)) (some ((p : Int) + (((getR r x).map DV.str).length : Nat))) _
      rw [e2]
      refine slS_mid ?_
      rw [Nat.add_sub_cancel_left]
      refine eqS_go (fun y hy => g.strs hs.2.1 y (List.mem_of_mem_drop (List.mem_of_mem_take hy))) (g.strs a3) ?_
      refine ⟨_, rfl, iteQ (fun hn => ?_) (fun hn => ?_)⟩
      · rw [decide_eq_false hn] at hq
        exact ⟨rfl, hq⟩
      · rw [decide_eq_true hn] at hq
        refine ⟨_, rfl, slS_to ⟨by show 1 ≤ sizeLine; decide, ?_⟩⟩
        refine addS_go (b := [x]) (by rw [List.length_take]; simp; omega) ⟨_, rfl, ?_⟩
        show fSl (encS s) (some ((p : Int) + (((getR r x).map DV.str).length : Nat))) none _
        rw [e2]
        refine slS_from (addS_go ?_ hq)
        rw [List.length_append, List.length_take, List.length_drop]
        simp
        omega
  · unfold outCo at hq
    rw [if_neg hi] at hq
    rw [if_neg hi]
    exact hq

/-- expand_at -/
theorem okexpand_at (T : Txt P w K mg base C_Derivation C_Grammar C_InvalidName C_InvalidRule C_InvalidSequence C_InvalidStep C_LimitExceeded C_NoMatch C_OutOfRange C_TerminalSymbol C_UnknownSymbol C_DuplicateName C_UnknownUser C_MissingWeight C_RuleMismatch C_StepFailed C_StepInUse C_InvalidPath C_InvalidPoint C_Blocked C_InvalidFile C_SunderError C_NotFound) (G_Grammar_expansion : Mg (L2.CX P w) P w K mg base C_Grammar "expansion" 3 2 (spExpansionX C_Grammar C_UnknownSymbol)) (G_check_position : CalX P w K mg base "check_position" 3 2 (spCheckPosX C_OutOfRange)) : CalX P w K mg base "expand_at" 4 3 (spExpandAtX C_Grammar C_InvalidStep C_OutOfRange C_TerminalSymbol C_UnknownSymbol C_NoMatch) := by
  have E_TerminalSymbol := T.e_TerminalSymbol
  refine dcal_okX T.d_expand_at scexpand_at biexpand_at (fun f F0 H0 W w' lk cdv A outer s H E hr tk => (have hu := hu100 hr; have nd := scexpand_at.nd; (dss_cons (ds_expr (dcallG (CalX.g G_check_position) (hr.mono (by decide)) (goX tk) (da_cons (dv 1) (da_cons (dv 2) da_nil))))
    (dss_cons (dset 3 nd (dmethG G_Grammar_expansion (hr.mono (by decide)) (goX tk) (dv 0) (da_cons (dix 1 hu (dv 2)) da_nil)))
    (dss_cons (ds_if (dt_cmp (oo_eq hu) od_eq (dv 3) (de_tup da_nil) (nomark _)) (dss_one (ds_raise rfl tk E_TerminalSymbol (by decide) (hr.mono (by decide)) (da_cons (dv 2) da_nil))) dss_nil)
    (dss_one (ds_ret (de_op oo_add od_add (de_op oo_add od_add (de_slice oo_sl od_sl (dv 1) do_none (do_some (dv 2))) (dv 3)) (de_slice oo_sl od_sl (dv 1) (do_some (de_op op_add od_addI (dv 2) de_int)) do_none))))))))) ?_
  rintro ds Q E ⟨r, s, i, rfl, g, hs, hq⟩
  have e0 := len_encS s
  refine ⟨rfl, s, i, rfl, ?_⟩
  by_cases hi : 0 ≤ i ∧ i < s.length
  · rw [if_pos hi]
    obtain ⟨p, rfl⟩ : ∃ p : Nat, i = p := ⟨i.toNat, by omega⟩
    have hp : p < s.length := by omega
    rw [outEx_in hp] at hq
    have hm := hs.2.1 _ (getD_mem hp)
    have hx : (s.map DV.str)[p]? = some (.str (s.getD p "")) := by rw [List.getElem?_map, List.getD_eq_getElem?_getD, List.getElem?_eq_getElem hp]; rfl
    obtain ⟨a1, a2, a3⟩ := g.get hm
    refine ⟨⟨_, _, rfl, rfl⟩, trivial, _, _, rfl, atI_nat hx, rfl, r, _, rfl, ?_⟩
    rw [if_pos hm]
    refine ⟨Nat.zero_le _, eqS_nil (g.strs a3) ?_⟩
    refine ⟨_, rfl, ite2 (fun h => ?_) (fun h => ?_)⟩
    · have h : (getR r (s.getD p "")).isEmpty = true := h
      rw [if_pos (by simpa using h)] at hq
      exact ⟨rfl, hq⟩
    · have h : ¬ (getR r (s.getD p "")).isEmpty = true := h
      rw [if_neg (by simpa using h)] at hq
      have hl := hs.2.2
      have l1 : (s.take p).length ≤ s.length := by rw [List.length_take]; omega
      refine ⟨_, rfl, slS_to (addS_go (by omega) ?_)⟩
      refine ⟨_, rfl, slS_from (a := p + 1) (addS_go ?_ hq)⟩
      rw [List.length_append, List.length_take, List.length_drop]
      omega
  · unfold outEx at hq
    rw [if_neg hi] at hq
    rw [if_neg hi]
    exact hq

/-- sequence_after -/
theorem oksequence_after (T : Txt P w K mg base C_Derivation C_Grammar C_InvalidName C_InvalidRule C_InvalidSequence C_InvalidStep C_LimitExceeded C_NoMatch C_OutOfRange C_TerminalSymbol C_UnknownSymbol C_DuplicateName C_UnknownUser C_MissingWeight C_RuleMismatch C_StepFailed C_StepInUse C_InvalidPath C_InvalidPoint C_Blocked C_InvalidFile C_SunderError C_NotFound) (G_check_step : CalX P w K mg base "check_step" 3 1 (spCheckStep C_InvalidStep)) (G_contract_at : CalX P w K mg base "contract_at" 4 4 (spContractAtX C_Grammar C_InvalidStep C_OutOfRange C_TerminalSymbol C_UnknownSymbol C_NoMatch)) (G_expand_at : CalX P w K mg base "expand_at" 4 3 (spExpandAtX C_Grammar C_InvalidStep C_OutOfRange C_TerminalSymbol C_UnknownSymbol C_NoMatch)) : CalX P w K mg base "sequence_after" 5 3 (spSeqAfter C_Grammar) := by
  refine dcal_okX T.d_sequence_after scsequence_after bisequence_after (fun f F0 H0 W w' lk cdv A outer s H E hr tk => (have hu := hu100 hr; have nd := scsequence_after.nd; (dss_cons (ds_expr (dcallG (CalX.g G_check_step) (hr.mono (by decide)) (goX tk) (da_cons (dv 2) da_nil)))
    (dss_cons (ds_if (dt_cmp (oo_eq hu) od_eq (dix 2 hu de_int) de_str (nomark _)) (dss_one (ds_ret (dcallG (CalX.g G_expand_at) (hr.mono (by decide)) (goX tk) (da_cons (dv 0) (da_cons (dv 1) (da_cons (dix 2 hu de_int) da_nil)))))) dss_nil)
    (dss_one (ds_ret (dcallG (CalX.g G_contract_at) (hr.mono (by decide)) (goX tk) (da_cons (dv 0) (da_cons (dv 1) (da_cons (dix 2 hu de_int) (da_cons (dix 2 hu de_int) da_nil))))))))))) ?_
  rintro ds Q E ⟨r, s, t, rfl, g, hs, ht, hq⟩
  cases t with
  | ex p =>
    have n0 : atI [DV.str "expand", DV.int (p : Int)] 0 = some (DV.str "expand") := atI_nat (j := 0) rfl
    have n1 : atI [DV.str "expand", DV.int (p : Int)] 1 = some (DV.int (p : Int)) := atI_nat (j := 1) rfl
    refine ⟨rfl, _, rfl, .inr ⟨_, _, rfl⟩, trivial, 0, _, rfl, n0, eqT_go ⟨_, rfl, ?_⟩⟩
    refine ⟨trivial, 1, _, rfl, n1, rfl, r, s, (p : Nat), rfl, g, hs, ?_⟩
    rw [outEx_in ht.1, if_neg ht.2]
    exact hq
  | co p x =>
    have n0 : atI [DV.str "contract", DV.int (p : Int), DV.str x] 0 = some (DV.str "contract") := atI_nat (j := 0) rfl
    have n1 : atI [DV.str "contract", DV.int (p : Int), DV.str x] 1 = some (DV.int (p : Int)) := atI_nat (j := 1) rfl
    have n2 : atI [DV.str "contract", DV.int (p : Int), DV.str x] 2 = some (DV.str x) := atI_nat (j := 2) rfl
    refine ⟨rfl, _, rfl, .inr ⟨_, _, rfl⟩, trivial, 0, _, rfl, n0, eqT_go ⟨_, rfl, ?_⟩⟩
    refine ⟨trivial, 1, _, rfl, n1, trivial, 2, _, rfl, n2, rfl, r, s, (p : Nat), x, rfl, g, hs, ?_⟩
    rw [outCo_in ht.1, if_pos ht.2.1, if_pos ht.2.2]
    exact hq

/-- Derivation_init -/
theorem okDerivation_init (T : Txt P w K mg base C_Derivation C_Grammar C_InvalidName C_InvalidRule C_InvalidSequence C_InvalidStep C_LimitExceeded C_NoMatch C_OutOfRange C_TerminalSymbol C_UnknownSymbol C_DuplicateName C_UnknownUser C_MissingWeight C_RuleMismatch C_StepFailed C_StepInUse C_InvalidPath C_InvalidPoint C_Blocked C_InvalidFile C_SunderError C_NotFound) (G_check_sequence : CalX P w K mg base "check_sequence" 3 2 (spCheckSeq C_Grammar C_InvalidSequence)) (G_sequence_after : CalX P w K mg base "sequence_after" 5 3 (spSeqAfter C_Grammar)) : Kg (L2.CX P w) P w K mg base "Derivation" C_Derivation 6 3 (spDeriv C_Derivation C_Grammar C_InvalidSequence C_LimitExceeded) := by
  obtain ⟨t_MAX_STEPS, c_MAX_STEPS⟩ := T.c_MAX_STEPS
  have E_LimitExceeded := T.e_LimitExceeded
  refine dmak_okXV T.d_Derivation_init scDerivation_init biDerivation_init rfl (by decide) (fun f F0 H0 W w' lk cdv A outer s H E hr tk => (have hu := hu100 hr; have nd := scDerivation_init.nd; (dss_cons (ds_expr (dcallG (CalX.g G_check_sequence) (hr.mono (by decide)) (goX tk) (da_cons (dv 1) (da_cons (dv 2) da_nil))))
    (dss_cons (ds_if (dt_cmp op_gt od_ib (de_callB co_len cd_len (by rfl) T.z_len (by decide +kernel) (da_cons (dv 3) da_nil)) (de_gint (by rfl) c_MAX_STEPS) (nomark _)) (dss_one (ds_raise rfl tk E_LimitExceeded (by decide) (hr.mono (by decide)) (da_cons (de_gint (by rfl) c_MAX_STEPS) da_nil))) dss_nil)
    (dss_cons (ds_setF 0 T.cl_Derivation T.nf_Derivation_base (dv 1))
    (dss_cons (ds_setL 0 8 T.cl_Derivation T.nf_Derivation_states (da_cons (dv 2) da_nil) (by rfl) (notVis (sc := defScope sDerivation_init) (by decide +kernel)))
    (dss_cutc (ds_setL 0 9 T.cl_Derivation T.nf_Derivation_actions da_nil (by rfl) (notVis (sc := defScope sDerivation_init) (by decide +kernel)))
    (dss_cutc (ds_wp [1, 2, 3, 4, 5, 6, 7] (dforX (passes_of rfl) rfl (di_wp [2, 3, 4, 5, 6, 7] (di_enum (by rfl) T.z_enumerate (dv 3))) (dg_tl (n := 2) rfl (dgs_cons (dgn 4 nd) (dgs_cons (dgn 5 nd) dgs_nil))) (dss_wp [2, 3, 4, 5, 6, 7] (dss_cutc (ds_tryNo (dss_one (dset 6 nd (dcallG (CalX.g G_sequence_after) (hr.mono (by decide)) goN (da_cons (dv 1) (da_cons (de_ixF 0 8 T.cl_Derivation T.nf_Derivation_states hu (de_neg de_int)) (da_cons (dv 5) da_nil)))))))
    (dss_cutc (ds_mutF 0 8 T.cl_Derivation T.nf_Derivation_states PySem.F.slot_list_append PySem.F.type_list_append mt_append mu_appL (dv 6))
    (dss_one (ds_mutF 0 9 T.cl_Derivation T.nf_Derivation_actions PySem.F.slot_list_append PySem.F.type_list_append mt_append mu_appL (dv 5))))))))
    (dss_seal 0 9 (dss_seal 0 8 dss_nil)))))))))) ?_
  rintro b ds Q E ⟨r, s, ts, rfl, g, hl, hq⟩
  have e0 := len_encS s
  have e1 : (ts.map encP).length = ts.length := List.length_map ..
  refine ⟨rfl, r, s, rfl, by omega, ?_⟩
  cases hb : seqBad (namesR r) s with
  | some k => rw [hb] at hq; exact hq
  | none =>
  rw [hb] at hq
  refine ⟨_, rfl, iteP (fun h => ?_) (fun h => ?_)⟩
  · have h : (120 : Int) < ((ts.map encP).length : Nat) := h
    replace hq : (if 120 < ts.length then E C_LimitExceeded ["word", "limit"] [.str "limitexceeded", .int 120] else okRun r s ts ∧ Q (dvD C_Derivation C_Grammar r s ts)) := hq
    rw [if_pos (by omega)] at hq
    exact ⟨rfl, hq⟩
  have h : ¬ (120 : Int) < ((ts.map encP).length : Nat) := h
  replace hq : (if 120 < ts.length then E C_LimitExceeded ["word", "limit"] [.str "limitexceeded", .int 120] else okRun r s ts ∧ Q (dvD C_Derivation C_Grammar r s ts)) := hq
  rw [if_neg (by omega)] at hq
  obtain ⟨hrun, hq⟩ := hq
  have hs0 : s ≠ [] ∧ ∀ x ∈ s, x ∈ namesR r := seqBad_ok hb
  refine ⟨b, _, _, rfl, by show 0 < 1000; decide, ?_⟩
  refine ⟨by show 1 ≤ sizeLine; decide, by decide, by show 8 < 10; decide, b, _, _, rfl, by show 1 < 1000; decide, fun p1 _ => ?_⟩
  refine ⟨fun ρ => ∃ p2, p1 ≠ p2 ∧ ρ = [some (Lv.own (.osa b C_Derivation ["base", "states", "actions"] [grD C_Grammar r, .cls p1, .cls p2])), some (Lv.val (grD C_Grammar r)), some (Lv.val (encS s)), some (Lv.val (.lst (ts.map encP))), none, none, none, none, some (Lv.own (.lsa p1 [encS s])), some (Lv.own (.lsa p2 []))], ?_, ?_⟩
  · exact ⟨by show 0 ≤ sizeLine; decide, by decide, by show 9 < 10; decide, b, _, _, rfl, by show 2 < 1000; decide, fun p2 hp => ⟨p2, hp 8 p1 _ rfl, rfl⟩⟩
  rintro ρ ⟨p2, np, rfl⟩
  refine ⟨fun ρ => ρ = [some (Lv.own (.osa b C_Derivation ["base", "states", "actions"] [grD C_Grammar r, .cls p1, .cls p2])), none, none, none, none, none, none, none, some (Lv.own (.lsa p1 ((rowsP r s ts).map encS))), some (Lv.own (.lsa p2 (ts.map encP)))], ?_, ?_⟩
  · refine dWalk_by (fun ds ρ => ∃ done rest, done ++ rest = ts ∧ ds = enumD (done.length : Nat) (rest.map encP) ∧ ρ = [some (Lv.own (.osa b C_Derivation ["base", "states", "actions"] [grD C_Grammar r, .cls p1, .cls p2])), some (Lv.val (grD C_Grammar r)), none, none, none, none, none, none, some (Lv.own (.lsa p1 ((rowsP r s done).map encS))), some (Lv.own (.lsa p2 (done.map encP)))]) ⟨[], ts, rfl, rfl, rfl⟩ ?_ ?_
    · rintro ρ ⟨done, rest, e, ed, rfl⟩
      have : rest = [] := by cases rest with | nil => rfl | cons _ _ => exact nomatch ed
      subst this
      rw [List.append_nil] at e
      subst e
      rfl
    · rintro d l ρ K' hn _ _ _ ⟨done, rest, e, ed, rfl⟩
      cases rest with
      | nil => exact nomatch ed
      | cons t rest =>
      obtain ⟨rfl, rfl⟩ : d = .tup [.int (done.length : Nat), encP t] ∧ l = enumD ((done.length : Nat) + 1) (rest.map encP) := by
        have ed : d :: l = .tup [.int (done.length : Nat), encP t] :: enumD ((done.length : Nat) + 1) (rest.map encP) := ed
        simpa using ed
      have hr2 := hrun
      rw [← e] at hr2
      obtain ⟨o1, o2, _⟩ := okRun_take hr2
      have rl := run_len g hs0.2 o1
      obtain ⟨q1, q2⟩ := run_ok g hs0.1 hs0.2 o1
      have el := congrArg List.length e
      simp only [List.length_append, List.length_cons] at el
      have lastE : atI ((rowsP r s done).map encS) (-1) = some (encS (runP r s done)) := by
        rw [atI_last (by simpa using rowsP_ne), List.getLast_map, rowsP_last]
      refine ⟨rfl, rfl, fun ρ => ρ = [some (Lv.own (.osa b C_Derivation ["base", "states", "actions"] [grD C_Grammar r, .cls p1, .cls p2])), some (Lv.val (grD C_Grammar r)), none, none, some (Lv.val (.int (done.length : Nat))), some (Lv.val (encP t)), some (Lv.val (encS (aftP r (runP r s done) t))), none, some (Lv.own (.lsa p1 ((rowsP r s done).map encS))), some (Lv.own (.lsa p2 (done.map encP)))], ?_, ?_⟩
      · refine ⟨b, _, _, p1, _, rfl, rfl, rfl, rfl, -1, _, rfl, lastE, rfl, r, runP r s done, t, rfl, g, ⟨q1, q2, by omega⟩, o2, rfl⟩
      rintro ρ rfl
      refine ⟨fun ρ => ρ = [some (Lv.own (.osa b C_Derivation ["base", "states", "actions"] [grD C_Grammar r, .cls p1, .cls p2])), some (Lv.val (grD C_Grammar r)), none, none, some (Lv.val (.int (done.length : Nat))), some (Lv.val (encP t)), some (Lv.val (encS (aftP r (runP r s done) t))), none, some (Lv.own (.lsa p1 ((rowsP r s (done ++ [t])).map encS))), some (Lv.own (.lsa p2 (done.map encP)))], ?_, ?_⟩
      · refine ⟨b, _, _, p1, _, rfl, rfl, rfl, _, rfl, by rw [List.length_map, rowsP_len, sizeLine_eq]; omega, ?_⟩
        rw [rowsP_snoc, List.map_append]
        rfl
      rintro ρ rfl
      refine ⟨b, _, _, p2, _, rfl, rfl, rfl, _, rfl, by rw [List.length_map, sizeLine_eq]; omega, ?_⟩
      dsimp only
      refine hn _ ⟨done ++ [t], rest, by rw [← e]; simp, by rw [List.length_append]; rfl, ?_⟩
      rw [List.map_append (l₁ := done)]
      simp only [wipeD, merge, keepV, List.map_cons, List.map_nil, List.set_cons_zero, List.set_cons_succ, List.getElem?_cons_succ, List.getElem?_cons_zero]
  rintro ρ rfl
  refine ⟨p2, _, b, C_Derivation, _, _, rfl, by decide, rfl, p1, _, b, _, _, _, rfl, by decide, rfl, ?_⟩
  refine ⟨_, _, rfl, ?_⟩
  have ev : [grD C_Grammar r, .lst ((rowsP r s ts).map encS), .lst (ts.map encP)] = ([grD C_Grammar r, .cls p1, .cls p2].map (swapL p2 (ts.map encP))).map (swapL p1 ((rowsP r s ts).map encS)) := by
    simp [swapL, grD, np]
  unfold dvD at hq
  rw [ev] at hq
  exact hq

/-- Derivation_contracted -/
theorem okDerivation_contracted (T : Txt P w K mg base C_Derivation C_Grammar C_InvalidName C_InvalidRule C_InvalidSequence C_InvalidStep C_LimitExceeded C_NoMatch C_OutOfRange C_TerminalSymbol C_UnknownSymbol C_DuplicateName C_UnknownUser C_MissingWeight C_RuleMismatch C_StepFailed C_StepInUse C_InvalidPath C_InvalidPoint C_Blocked C_InvalidFile C_SunderError C_NotFound) (G_Derivation_init : Kg (L2.CX P w) P w K mg base "Derivation" C_Derivation 6 3 (spDeriv C_Derivation C_Grammar C_InvalidSequence C_LimitExceeded)) (G_contract_at : CalX P w K mg base "contract_at" 4 4 (spContractAtX C_Grammar C_InvalidStep C_OutOfRange C_TerminalSymbol C_UnknownSymbol C_NoMatch)) : Mg (L2.CX P w) P w K mg base C_Derivation "contracted" 8 3 (spDvCon C_Derivation C_Grammar C_LimitExceeded C_InvalidStep C_OutOfRange C_TerminalSymbol C_UnknownSymbol C_NoMatch) := by
  obtain ⟨t_MAX_STEPS, c_MAX_STEPS⟩ := T.c_MAX_STEPS
  have E_LimitExceeded := T.e_LimitExceeded
  refine dmet_okX T.cl_Derivation T.d_Derivation_contracted scDerivation_contracted biDerivation_contracted (fun f F0 H0 W w' lk cdv A outer s H E hr tk => (have hu := hu100 hr; have nd := scDerivation_contracted.nd; (dss_cons (ds_if (dt_cmp op_ge od_ib (de_callB co_len cd_len (by rfl) T.z_len (by decide +kernel) (da_cons (de_fld T.cl_Derivation T.nf_Derivation_actions (dv 0)) da_nil)) (de_gint (by rfl) c_MAX_STEPS) (nomark _)) (dss_one (ds_raise rfl tk E_LimitExceeded (by decide) (hr.mono (by decide)) (da_cons (de_gint (by rfl) c_MAX_STEPS) da_nil))) dss_nil)
    (dss_cons (ds_expr (dcallG (CalX.g G_contract_at) (hr.mono (by decide)) (goX tk) (da_cons (de_fld T.cl_Derivation T.nf_Derivation_base (dv 0)) (da_cons (de_ix (oo_ix hu) od_ix (de_fld T.cl_Derivation T.nf_Derivation_states (dv 0)) (de_neg de_int)) (da_cons (dv 1) (da_cons (dv 2) da_nil))))))
    (dss_one (ds_ret (dmakeG G_Derivation_init (hr.mono (by decide)) (goX tk) (da_cons (de_fld T.cl_Derivation T.nf_Derivation_base (dv 0)) (da_cons (de_ix (oo_ix hu) od_ix (de_fld T.cl_Derivation T.nf_Derivation_states (dv 0)) de_int) (da_cons (de_op oo_add od_add (de_fld T.cl_Derivation T.nf_Derivation_actions (dv 0)) (de_lst (da_cons (de_tup (da_cons de_str (da_cons (dv 1) (da_cons (dv 2) da_nil)))) da_nil))) da_nil)))))))))) ?_
  rintro ds Q E ⟨r, s, ts, i, x, rfl, d, hl, hq⟩
  have lastE : atI ((rowsP r s ts).map encS) (-1) = some (encS (runP r s ts)) := by
    rw [atI_last (by simpa using rowsP_ne), List.getLast_map, rowsP_last]
  have h0 : atI ((rowsP r s ts).map encS) 0 = some (encS s) := atI_nat (j := 0) (by rw [List.getElem?_map, rowsP_get (Nat.zero_le _)]; rfl)
  have e1 : (ts.map encP).length = ts.length := List.length_map ..
  obtain ⟨q1, q2⟩ := run_ok d.g d.ne d.mem d.run
  have rl := run_len d.g d.mem d.run
  refine ⟨_, _, _, rfl, rfl, ?_⟩
  refine ⟨_, rfl, iteP (fun h => ?_) (fun h => ?_)⟩
  · have h : (120 : Int) ≤ ((ts.map encP).length : Nat) := h
    rw [if_pos (by omega)] at hq
    exact ⟨rfl, hq⟩
  have h : ¬ (120 : Int) ≤ ((ts.map encP).length : Nat) := h
  rw [if_neg (by omega)] at hq
  refine ⟨_, _, _, rfl, rfl, _, _, _, rfl, rfl, -1, _, rfl, lastE, rfl, r, runP r s ts, i, x, rfl, d.g, ⟨q1, q2, by omega⟩, ?_⟩
  cases ho : outCo r (runP r s ts) i x with
  | ok s' =>
    rw [ho] at hq
    obtain ⟨p, rfl, hp, _⟩ := outCo_ok ho
    rw [Int.toNat_natCast] at hq
    refine ⟨_, _, _, rfl, rfl, _, _, _, rfl, rfl, 0, _, rfl, h0, _, _, _, rfl, rfl, by show 3 ≤ sizeLine; decide, by show 1 ≤ sizeLine; decide, ?_⟩
    refine addL_go (by rw [e1]; show _ + 1 ≤ _; omega) ?_
    rw [show (.lst (ts.map encP ++ [.tup [.str "contract", .int (p : Int), .str x]]) : DV) = .lst ((ts ++ [Sp1.co p x]).map encP) by rw [List.map_append]; rfl]
    exact deriv_go (d.snoc hp hl (by omega)) hq
  | bad => rw [ho] at hq; exact hq
  | range j => rw [ho] at hq; exact hq
  | term j => rw [ho] at hq; exact hq
  | unk z => rw [ho] at hq; exact hq
  | nom j => rw [ho] at hq; exact hq

/-- Derivation_expanded -/
theorem okDerivation_expanded (T : Txt P w K mg base C_Derivation C_Grammar C_InvalidName C_InvalidRule C_InvalidSequence C_InvalidStep C_LimitExceeded C_NoMatch C_OutOfRange C_TerminalSymbol C_UnknownSymbol C_DuplicateName C_UnknownUser C_MissingWeight C_RuleMismatch C_StepFailed C_StepInUse C_InvalidPath C_InvalidPoint C_Blocked C_InvalidFile C_SunderError C_NotFound) (G_Derivation_init : Kg (L2.CX P w) P w K mg base "Derivation" C_Derivation 6 3 (spDeriv C_Derivation C_Grammar C_InvalidSequence C_LimitExceeded)) (G_expand_at : CalX P w K mg base "expand_at" 4 3 (spExpandAtX C_Grammar C_InvalidStep C_OutOfRange C_TerminalSymbol C_UnknownSymbol C_NoMatch)) : Mg (L2.CX P w) P w K mg base C_Derivation "expanded" 8 2 (spDvExp C_Derivation C_Grammar C_LimitExceeded C_InvalidStep C_OutOfRange C_TerminalSymbol C_UnknownSymbol C_NoMatch) := by
  obtain ⟨t_MAX_STEPS, c_MAX_STEPS⟩ := T.c_MAX_STEPS
  have E_LimitExceeded := T.e_LimitExceeded
  refine dmet_okX T.cl_Derivation T.d_Derivation_expanded scDerivation_expanded biDerivation_expanded (fun f F0 H0 W w' lk cdv A outer s H E hr tk => (have hu := hu100 hr; have nd := scDerivation_expanded.nd; (dss_cons (ds_if (dt_cmp op_ge od_ib (de_callB co_len cd_len (by rfl) T.z_len (by decide +kernel) (da_cons (de_fld T.cl_Derivation T.nf_Derivation_actions (dv 0)) da_nil)) (de_gint (by rfl) c_MAX_STEPS) (nomark _)) (dss_one (ds_raise rfl tk E_LimitExceeded (by decide) (hr.mono (by decide)) (da_cons (de_gint (by rfl) c_MAX_STEPS) da_nil))) dss_nil)
    (dss_cons (ds_expr (dcallG (CalX.g G_expand_at) (hr.mono (by decide)) (goX tk) (da_cons (de_fld T.cl_Derivation T.nf_Derivation_base (dv 0)) (da_cons (de_ix (oo_ix hu) od_ix (de_fld T.cl_Derivation T.nf_Derivation_states (dv 0)) (de_neg de_int)) (da_cons (dv 1) da_nil)))))
    (dss_one (ds_ret (dmakeG G_Derivation_init (hr.mono (by decide)) (goX tk) (da_cons (de_fld T.cl_Derivation T.nf_Derivation_base (dv 0)) (da_cons (de_ix (oo_ix hu) od_ix (de_fld T.cl_Derivation T.nf_Derivation_states (dv 0)) de_int) (da_cons (de_op oo_add od_add (de_fld T.cl_Derivation T.nf_Derivation_actions (dv 0)) (de_lst (da_cons (de_tup (da_cons de_str (da_cons (dv 1) da_nil))) da_nil))) da_nil)))))))))) ?_
  rintro ds Q E ⟨r, s, ts, i, rfl, d, hl, hq⟩
  have lastE : atI ((rowsP r s ts).map encS) (-1) = some (encS (runP r s ts)) := by
    rw [atI_last (by simpa using rowsP_ne), List.getLast_map, rowsP_last]
  have h0 : atI ((rowsP r s ts).map encS) 0 = some (encS s) := atI_nat (j := 0) (by rw [List.getElem?_map, rowsP_get (Nat.zero_le _)]; rfl)
  have e1 : (ts.map encP).length = ts.length := List.length_map ..
  obtain ⟨q1, q2⟩ := run_ok d.g d.ne d.mem d.run
  have rl := run_len d.g d.mem d.run
  refine ⟨_, _, _, rfl, rfl, ?_⟩
  refine ⟨_, rfl, iteP (fun h => ?_) (fun h => ?_)⟩
  · have h : (120 : Int) ≤ ((ts.map encP).length : Nat) := h
    rw [if_pos (by omega)] at hq
    exact ⟨rfl, hq⟩
  have h : ¬ (120 : Int) ≤ ((ts.map encP).length : Nat) := h
  rw [if_neg (by omega)] at hq
  refine ⟨_, _, _, rfl, rfl, _, _, _, rfl, rfl, -1, _, rfl, lastE, rfl, r, runP r s ts, i, rfl, d.g, ⟨q1, q2, by omega⟩, ?_⟩
  cases ho : outEx r (runP r s ts) i with
  | ok s' =>
    rw [ho] at hq
    obtain ⟨p, rfl, hp, _⟩ := outEx_ok ho
    rw [Int.toNat_natCast] at hq
    refine ⟨_, _, _, rfl, rfl, _, _, _, rfl, rfl, 0, _, rfl, h0, _, _, _, rfl, rfl, by show 2 ≤ sizeLine; decide, by show 1 ≤ sizeLine; decide, ?_⟩
    refine addL_go (by rw [e1]; show _ + 1 ≤ _; omega) ?_
    rw [show (.lst (ts.map encP ++ [.tup [.str "expand", .int (p : Int)]]) : DV) = .lst ((ts ++ [Sp1.ex p]).map encP) by rw [List.map_append]; rfl]
    exact deriv_go (d.snoc hp hl (by omega)) hq
  | bad => rw [ho] at hq; exact hq
  | range j => rw [ho] at hq; exact hq
  | term j => rw [ho] at hq; exact hq
  | unk z => rw [ho] at hq; exact hq
  | nom j => rw [ho] at hq; exact hq

/-- is_name -/
theorem okis_name (T : Txt P w K mg base C_Derivation C_Grammar C_InvalidName C_InvalidRule C_InvalidSequence C_InvalidStep C_LimitExceeded C_NoMatch C_OutOfRange C_TerminalSymbol C_UnknownSymbol C_DuplicateName C_UnknownUser C_MissingWeight C_RuleMismatch C_StepFailed C_StepInUse C_InvalidPath C_InvalidPoint C_Blocked C_InvalidFile C_SunderError C_NotFound) : Cal P w K mg base "is_name" 1 1 spIsName := by
  obtain ⟨t_LETTERS, c_LETTERS⟩ := T.c_LETTERS
  obtain ⟨t_MAX_NAME, c_MAX_NAME⟩ := T.c_MAX_NAME
  refine dcal_ok T.d_is_name scis_name biis_name (fun f Z cdv A outer s H E hr => (have hu := hu100 hr; have nd := scis_name.nd; (dss_one (ds_ret (de_and (de_chain op_le od_ib op_le od_ib de_int (de_callB co_len cd_len (by rfl) T.z_len (by decide +kernel) (da_cons (dv 0) da_nil)) (de_gint (by rfl) c_MAX_NAME)) (de_one (de_callB (cr_all rfl) cd_all (by rfl) T.z_all (by decide +kernel) (da_cons (de_lc (own := [("sign", 1)]) rfl nd (di_seq (dv 0)) (blkOk_by (N := ["text", "sign"]) (sc := defScope sis_name) (by decide +kernel)) (fun _ _ _ _ _ => (dgn 1 nd)) (fun _ _ _ _ _ => dts_nil) (fun _ _ _ _ _ => (de_cmp (oo_in hu) od_in (dv 1) (de_gstr (by rfl) c_LETTERS) (by rfl)))) da_nil)))))))) ?_
  rintro ds Q E ⟨z, rfl, hz, hq⟩
  refine ⟨hz, _, rfl, ite2 (fun h1 => ?_) (fun h1 => ?_)⟩
  · have e1 : decide ((1 : Int) ≤ z.length) = true := h1
    refine ite2 (fun h2 => ?_) (fun h2 => ?_)
    · have e2 : decide ((z.length : Int) ≤ 6) = true := h2
      refine ⟨by rw [signs_len]; exact hz, dLcW_map (fun d => match d with | .str i => DV.bl (strIn i letters) | _ => .non) rfl (fun d hd Q' hQ => ?_) ?_⟩
      · obtain ⟨c, _, rfl⟩ := List.mem_map.mp hd
        exact inT_go (hQ _ rfl)
      · refine ⟨_, signs_all z letters, ?_⟩
        have e : nameB z = (z.cps.toList.map fun c => strIn ⟨#[c]⟩ letters).all id := by
          unfold nameB
          rw [e1, e2, List.all_map]
          rfl
        rw [← e]
        exact hq
    · have e2 : decide ((z.length : Int) ≤ 6) = false := by simpa using h2
      have e : nameB z = false := by unfold nameB; rw [e2]; simp
      rw [e] at hq
      show Q (.bl (decide ((z.length : Int) ≤ 6)))
      rw [e2]
      exact hq
  · have e1 : decide ((1 : Int) ≤ z.length) = false := by simpa using h1
    have e : nameB z = false := by unfold nameB; rw [e1]; rfl
    rw [e] at hq
    exact hq

/-- is_rule -/
theorem okis_rule (T : Txt P w K mg base C_Derivation C_Grammar C_InvalidName C_InvalidRule C_InvalidSequence C_InvalidStep C_LimitExceeded C_NoMatch C_OutOfRange C_TerminalSymbol C_UnknownSymbol C_DuplicateName C_UnknownUser C_MissingWeight C_RuleMismatch C_StepFailed C_StepInUse C_InvalidPath C_InvalidPoint C_Blocked C_InvalidFile C_SunderError C_NotFound) : Cal P w K mg base "is_rule" 1 2 spIsRule := by
  obtain ⟨t_MAX_EXPANSION, c_MAX_EXPANSION⟩ := T.c_MAX_EXPANSION
  refine dcal_ok T.d_is_rule scis_rule biis_rule (fun f Z cdv A outer s H E hr => (have hu := hu100 hr; have nd := scis_rule.nd; (dss_cons (ds_if (dt_cmp (oo_eq hu) od_eq (de_callB co_len cd_len (by rfl) T.z_len (by decide +kernel) (da_cons (dv 0) da_nil)) de_int (nomark _)) (dss_one (ds_ret de_bl)) dss_nil)
    (dss_one (ds_ret (de_and (de_chain op_le od_ib op_le od_ib de_int (de_callB co_len cd_len (by rfl) T.z_len (by decide +kernel) (da_cons (dv 0) da_nil)) (de_gint (by rfl) c_MAX_EXPANSION)) (de_one (de_callB (cr_all rfl) cd_all (by rfl) T.z_all (by decide +kernel) (da_cons (de_lc (own := [("part", 2)]) rfl nd (di_seq (dv 0)) (blkOk_by (N := ["parts", "symbols", "part"]) (sc := defScope sis_rule) (by decide +kernel)) (fun _ _ _ _ _ => (dgn 2 nd)) (fun _ _ _ _ _ => dts_nil) (fun _ _ _ _ _ => (de_cmp (oo_in hu) od_in (dv 2) (dv 1) (by rfl)))) da_nil))))))))) ?_
  rintro ds Q E ⟨ps, r, rfl, hl, hq⟩
  have e0 := len_encS ps
  refine eqI_go ⟨_, rfl, iteP (fun h => qb hq ?_) (fun h => ⟨_, rfl, iteP (fun h2 => iteP (fun h4 => ?_) (fun h4 => qb hq ?_)) (fun h2 => qb hq ?_)⟩)⟩
  · unfold ruleB; rw [decide_eq_true (show ps.length = 0 by omega)]; rfl
  · refine ⟨by rw [e0]; exact line6 hl, lc_map (fun x => decide (x ∈ namesR r)) rfl (fun x hx Q' hQ => inR_go (hQ _ rfl)) (all_map (qb hq ?_))⟩
    unfold ruleB
    rw [decide_eq_false (show ¬ ps.length = 0 by omega), decide_eq_true (show 2 ≤ ps.length by omega), decide_eq_true (show ps.length ≤ 4 by omega)]; rfl
  · unfold ruleB
    rw [decide_eq_false (show ¬ ps.length = 0 by omega), decide_eq_false (show ¬ ps.length ≤ 4 by omega)]; simp; omega
  · unfold ruleB
    rw [decide_eq_false (show ¬ ps.length = 0 by omega), decide_eq_false (show ¬ 2 ≤ ps.length by omega)]; simp

/-- Grammar_init -/
theorem okGrammar_init (T : Txt P w K mg base C_Derivation C_Grammar C_InvalidName C_InvalidRule C_InvalidSequence C_InvalidStep C_LimitExceeded C_NoMatch C_OutOfRange C_TerminalSymbol C_UnknownSymbol C_DuplicateName C_UnknownUser C_MissingWeight C_RuleMismatch C_StepFailed C_StepInUse C_InvalidPath C_InvalidPoint C_Blocked C_InvalidFile C_SunderError C_NotFound) (G_is_name : Cal P w K mg base "is_name" 1 1 spIsName) (G_is_rule : Cal P w K mg base "is_rule" 1 2 spIsRule) : Kg (L2.CX P w) P w K mg base "Grammar" C_Grammar 3 1 (spGrammar C_Grammar C_LimitExceeded C_InvalidName C_InvalidRule) := by
  obtain ⟨t_MAX_SYMBOLS, c_MAX_SYMBOLS⟩ := T.c_MAX_SYMBOLS
  have E_InvalidName := T.e_InvalidName
  have E_InvalidRule := T.e_InvalidRule
  have E_LimitExceeded := T.e_LimitExceeded
  refine dmak_okX T.d_Grammar_init scGrammar_init biGrammar_init rfl (by decide) (fun f F0 H0 W w' lk cdv A outer s H E hr tk => (have hu := hu100 hr; have nd := scGrammar_init.nd; (dss_cons (ds_if (dt_cmp op_gt od_ib (de_callB co_len cd_len (by rfl) T.z_len (by decide +kernel) (da_cons (dv 1) da_nil)) (de_gint (by rfl) c_MAX_SYMBOLS) (nomark _)) (dss_one (ds_raise rfl tk E_LimitExceeded (by decide) (hr.mono (by decide)) (da_cons (de_gint (by rfl) c_MAX_SYMBOLS) da_nil))) dss_nil)
    (dss_cons (ds_wp [2] (dforX (passes_of rfl) rfl (di_wp [2] (di_seq (de_callB (co_sort rfl) cd_sort (by rfl) T.z_sorted (by decide +kernel) (da_cons (dv 1) da_nil)))) (dgn 2 nd) (dss_wp [2] (dss_one (ds_if (dt_not (dt_tru (dcall G_is_name (hr.mono (by decide)) (da_cons (dv 2) da_nil)))) (dss_one (ds_raise rfl tk E_InvalidName (by decide) (hr.mono (by decide)) (da_cons (dv 2) da_nil))) dss_nil)))))
    (dss_cons (ds_wp [2] (dforX (passes_of rfl) rfl (di_wp [2] (di_seq (de_callB (co_sort rfl) cd_sort (by rfl) T.z_sorted (by decide +kernel) (da_cons (dv 1) da_nil)))) (dgn 2 nd) (dss_wp [2] (dss_one (ds_if (dt_not (dt_tru (dcall G_is_rule (hr.mono (by decide)) (da_cons (dix 1 hu (dv 2)) (da_cons (dv 1) da_nil))))) (dss_one (ds_raise rfl tk E_InvalidRule (by decide) (hr.mono (by decide)) (da_cons (dv 2) da_nil))) dss_nil)))))
    (dss_one (ds_setF 0 T.cl_Grammar T.nf_Grammar_table (de_dc (own := [("name", 2)]) rfl nd (di_seq (de_callB (co_sort rfl) cd_sort (by rfl) T.z_sorted (by decide +kernel) (da_cons (dv 1) da_nil))) (blkOk_by (N := ["self", "rules", "name"]) (sc := defScope sGrammar_init) (by decide +kernel)) (fun _ _ _ _ _ => (dgn 2 nd)) (fun _ _ _ _ _ => dts_nil) (fun _ _ _ _ _ => (dv 2)) (fun _ _ _ _ _ => (dix 1 hu (dv 2))))))))))) ?_
  rintro b ds Q E ⟨r, rfl, hz, hq⟩
  obtain ⟨z1, z2, z3⟩ := hz
  have el : (keysR r).length = r.length := List.length_map ..
  unfold gErr at hq
  refine ⟨_, rfl, iteP (fun h => ?_) (fun h => ?_)⟩
  · rw [if_pos (show 8 < r.length by omega)] at hq
    exact ⟨rfl, hq⟩
  rw [if_neg (show ¬ 8 < r.length by omega)] at hq
  have hname : ∀ x ∈ namesR r, x.length ≤ 1000 := fun x hx => by obtain ⟨p, hp, rfl⟩ := List.mem_map.mp hx; exact (z3 p hp).1
  have hpart : ∀ x ∈ namesR r, (getR r x).length ≤ 1000 := fun x hx => (z3 _ (getR_mem hx)).2
  refine sortR_go z1 ?_
  refine walk_on (fun l ρ => ρ = [some (Lv.own (.osa b C_Grammar [] [])), some (Lv.val (encR r)), none] ∧ (∀ x ∈ l, x ∈ namesR r) ∧ (srtS (namesR r)).find? (fun z => !nameB z) = l.find? (fun z => !nameB z)) ⟨rfl, fun x => srtS_mem.mp, rfl⟩ ?_ ?_
  rotate_left
  · rintro x l ρ K' hn _ _ _ ⟨rfl, hm, e⟩
    refine ⟨rfl, x, rfl, Nat.le_trans (hname x (hm x List.mem_cons_self)) (line6 (by decide)), ite2 (fun hb => ?_) (fun hb => ?_)⟩
    · have hb : (!nameB x) = true := hb
      rw [List.find?_cons_of_pos (p := fun z => !nameB z) hb] at e
      rw [e] at hq
      exact ⟨rfl, hq⟩
    · have hb : ¬ (!nameB x) = true := hb
      rw [List.find?_cons_of_neg (p := fun z => !nameB z) hb] at e
      exact hn _ ⟨rfl, fun y hy => hm y (List.mem_cons_of_mem _ hy), e⟩
  rintro ρ ⟨rfl, _, e⟩
  rw [e] at hq
  replace hq : match (match (srtS (namesR r)).find? fun z => !ruleB (getR r z) (namesR r) with | some z => GErr.rule z | none => .ok) with
    | .ok => Q (grD C_Grammar (srtR r))
    | .limit => E C_LimitExceeded ["word", "limit"] [.str "limitexceeded", .int 8]
    | .name z => E C_InvalidName ["word", "name"] [.str "invalidname", .str z]
    | .rule z => E C_InvalidRule ["word", "symbol"] [.str "invalidrule", .str z] := hq
  refine sortR_go z1 ?_
  refine walk_on (fun l ρ => ρ = [some (Lv.own (.osa b C_Grammar [] [])), some (Lv.val (encR r)), none] ∧ (∀ x ∈ l, x ∈ namesR r) ∧ (srtS (namesR r)).find? (fun z => !ruleB (getR r z) (namesR r)) = l.find? (fun z => !ruleB (getR r z) (namesR r))) ⟨rfl, fun x => srtS_mem.mp, rfl⟩ ?_ ?_
  rotate_left
  · rintro x l ρ K' hn _ _ _ ⟨rfl, hm, e⟩
    have hx := hm x List.mem_cons_self
    refine ⟨trivial, ixR_go hx ?_⟩
    refine ⟨rfl, _, r, rfl, Nat.le_trans (hpart x hx) (by decide), ite2 (fun hb => ?_) (fun hb => ?_)⟩
    · have hb : (!ruleB (getR r x) (namesR r)) = true := hb
      rw [List.find?_cons_of_pos (p := fun z => !ruleB (getR r z) (namesR r)) hb] at e
      rw [e] at hq
      exact ⟨rfl, hq⟩
    · have hb : ¬ (!ruleB (getR r x) (namesR r)) = true := hb
      rw [List.find?_cons_of_neg (p := fun z => !ruleB (getR r z) (namesR r)) hb] at e
      exact hn _ ⟨rfl, fun y hy => hm y (List.mem_cons_of_mem _ hy), e⟩
  rintro ρ ⟨rfl, _, e⟩
  rw [e] at hq
  replace hq : Q (grD C_Grammar (srtR r)) := hq
  refine sortR_go z1 ?_
  refine dDcW_ind (fun l ks xs ρ => ρ = [some (Lv.own (.osa b C_Grammar [] [])), some (Lv.val (encR r)), none] ∧ ∃ l1 l2 : List Str, srtS (namesR r) = l1 ++ l2 ∧ l = l2.map DV.str ∧ ks = keysR (l1.map fun x => (x, getR r x)) ∧ xs = (l1.map fun x => (x, getR r x)).map fun p => encS p.2)
    ⟨rfl, [], srtS (namesR r), rfl, rfl, rfl, rfl⟩ ?_ ?_
  · rintro ks xs ρ ⟨rfl, l1, l2, e1, e2, rfl, rfl⟩
    have : l2 = [] := by simpa using e2.symm
    subst this
    rw [List.append_nil] at e1
    rw [← e1]
    exact ⟨b, [], [], rfl, by decide, _, _, rfl, hq⟩
  · rintro d l ks xs ρ W hW ⟨rfl, l1, l2, e1, e2, rfl, rfl⟩
    obtain ⟨x, l2, rfl⟩ : ∃ x l, l2 = x :: l := by cases l2 with | nil => cases e2 | cons a b => exact ⟨a, b, rfl⟩
    rw [List.map_cons, List.cons.injEq] at e2
    obtain ⟨rfl, rfl⟩ := e2
    have hx : x ∈ namesR r := srtS_mem.mp (by rw [e1]; simp)
    have hn : x ∉ namesR (l1.map fun x => (x, getR r x)) := by
      have nd := srtS_nodup z2
      rw [e1] at nd
      have := (List.nodup_append.mp nd).2.2
      intro h
      have h : x ∈ l1 := by simpa [namesR] using h
      exact this x h x (by simp) rfl
    refine ⟨trivial, ixR_go hx ⟨.inr x, rfl, ?_, ?_⟩⟩
    · have h1 : l1.length ≤ (srtS (namesR r)).length := by rw [e1]; simp
      rw [srtS_len] at h1
      have h2 : (namesR r).length = r.length := List.length_map ..
      have h3 : (keysR (l1.map fun x => (x, getR r x))).length = l1.length := by simp [keysR]
      rw [h3, sizeLine_eq]
      omega
    · rw [putD_new hn]
      exact hW _ _ _ ⟨rfl, l1 ++ [x], l2, by rw [e1]; simp, rfl, by simp, by simp⟩

/-- _law_pull -/
theorem ok_law_pull (T : Txt P w K mg base C_Derivation C_Grammar C_InvalidName C_InvalidRule C_InvalidSequence C_InvalidStep C_LimitExceeded C_NoMatch C_OutOfRange C_TerminalSymbol C_UnknownSymbol C_DuplicateName C_UnknownUser C_MissingWeight C_RuleMismatch C_StepFailed C_StepInUse C_InvalidPath C_InvalidPoint C_Blocked C_InvalidFile C_SunderError C_NotFound) : Cal P w K mg base "_law_pull" 1 2 spPull := by
  refine dcal_pull T.d__law_pull sc_law_pull bi_law_pull rfl (fun f Z cdv A outer s H E hr => (have hu := hu100 hr; have nd := sc_law_pull.nd; (dss_cutc (ds_if (DW.dt (dw_and (dt_cmp (oo_ltA hu) od_ltA (dix 0 hu de_int) (dv 1) (nomark _)) (dw_and1 (dt_cmp (oo_ltA hu) od_ltA (dix 0 hu de_int) (de_callB co_len cd_len (by rfl) T.z_len (by decide +kernel) (da_cons (dix 0 hu de_int) da_nil)) (nomark _))))) (dss_cons (dset 2 nd (de_ix (oo_ix hu) od_ix (dix 0 hu de_int) (dix 0 hu de_int)))
    (dss_cons (dput 0 hu de_int (de_op op_add od_addI (dix 0 hu de_int) de_int))
    (dss_cons (dput 0 hu de_int de_int)
    (dss_one (ds_if (dt_cmp op_ge od_ib (dv 2) (de_op op_pow od_i2 de_int de_int) (nomark _)) (dss_one (dput 0 hu de_int (dv 2))) (dss_one (dput 0 hu de_int (de_op op_mod od_i2 (de_op op_add od_addI (de_op op_add od_addI (de_op oo_mul od_mul (dix 0 hu de_int) de_int) (de_op oo_mul od_mul (de_op op_mod od_i2 (dv 2) de_int) de_int)) de_int) de_int)))))))) dss_nil)
    (dss_cons (ds_if (dt_cmp op_ge od_ib (dix 0 hu de_int) (dv 1) (nomark _)) (dss_cons (dset 3 nd (de_op op_mod od_i2 (dix 0 hu de_int) (dv 1)))
    (dss_cons (dput 0 hu de_int (de_op op_fdivW od_i2 (dix 0 hu de_int) (dv 1)))
    (dss_one (ds_ret (dv 3))))) dss_nil)
    (dss_cons (dset 4 nd (de_op op_add od_addI (de_op op_add od_addI (de_op oo_mul od_mul (de_op op_mod od_i2 (de_op oo_mul od_mul (dix 0 hu de_int) (dix 0 hu de_int)) de_int) de_int) (de_op oo_mul od_mul (dix 0 hu de_int) de_int)) de_int))
    (dss_cons (dput 0 hu de_int (de_op op_mod od_i2 (dv 4) de_int))
    (dss_one (ds_ret (de_op op_mod od_i2 (de_op op_add od_addI (de_op op_fdivW od_i2 (dix 0 hu de_int) de_int) (de_op oo_mul od_mul (de_op op_mod od_i2 (dix 0 hu de_int) de_int) de_int)) (dv 1)))))))))) ?_
  intro p q cs i c s n Q hcs hok n0 nl hk
  obtain ⟨i0, i9, c0, s0, s9⟩ := hok
  refine ⟨fun ρ => ∃ i c s v2, BagOk cs.length i c s ∧ ρ = [some (Lv.own (bagC p q cs i c s)), some (Lv.val (.int n)), v2, none, none], ?_, ?_⟩
  · have keep : ∃ i' c' s' v2, BagOk cs.length i' c' s' ∧ [some (Lv.own (bagC p q cs i c s)), some (Lv.val (.int n)), none, none, none] = [some (Lv.own (bagC p q cs i' c' s')), some (Lv.val (.int n)), v2, none, none] :=
      ⟨i, c, s, none, ⟨i0, i9, c0, s0, s9⟩, rfl⟩
    refine ⟨trivial, 2, .int c, rfl, rfl, _, rfl, ite2 (fun h1 => ?_) (fun h1 => keep)⟩
    refine ⟨trivial, 1, .int i, rfl, rfl, trivial, 0, .lsa q (cs.map DV.int), rfl, rfl, _, rfl, ite2 (fun h2 => ?_) (fun h2 => keep)⟩
    have h2 : i < ((cs.map DV.int).length : Int) := of_decide_eq_true h2
    obtain ⟨x, hx, hm⟩ := atI_mem (xs := cs.map DV.int) i0 h2
    obtain ⟨z, hz, rfl⟩ := List.mem_map.mp hm
    rw [List.length_map] at h2
    -- cell = ..; bag[1] = bag[1] + 1; bag[2] = 0
    refine ⟨trivial, 0, .lsa q (cs.map DV.int), rfl, rfl, trivial, 1, .int i, rfl, rfl, i, .int z, rfl, hx, ?_⟩
    refine ⟨trivial, 1, .int i, rfl, rfl, trivial, 1, 1, rfl, rfl, trivial, 2, 2, rfl, rfl, ?_⟩
    refine ⟨⟨by decide, by decide, by decide⟩, _, rfl, ite2 (fun h3 => ?_) (fun h3 => ?_)⟩
    · have h3 : (10 : Int) ^ (18 : Int).toNat ≤ z := of_decide_eq_true h3
      have h4 : (0 : Int) ≤ (10 : Int) ^ (18 : Int).toNat := by decide
      exact ⟨trivial, 2, 2, rfl, rfl, i + 1, z, s, some (Lv.val (.int z)), ⟨by omega, by omega, by omega, s0, s9⟩, rfl⟩
    · refine ⟨trivial, 3, .int s, rfl, rfl, cmulW (by omega) (by decide), (by show (0 : Int) < 1000000007; decide), cmulW ?_ (by decide), (by show (0 : Int) < 2147483647; decide), ?_⟩
      · have h5 := Int.emod_nonneg z (show (1000000007 : Int) ≠ 0 by decide)
        have h6 := Int.emod_lt_of_pos z (show (0 : Int) < 1000000007 by decide)
        show (z % 1000000007).natAbs < 2 ^ 64
        omega
      · exact ⟨trivial, 3, 3, rfl, rfl, i + 1, 0, _, some (Lv.val (.int z)), ⟨by omega, by omega, by omega, Int.emod_nonneg _ (by decide), Int.emod_lt_of_pos _ (by decide)⟩, rfl⟩
  · rintro ρ ⟨i, c, s, v2, ⟨i0, i9, c0, s0, s9⟩, rfl⟩
    refine ⟨trivial, 2, .int c, rfl, rfl, _, rfl, ite2 (fun h1 => ?_) (fun h1 => ?_)⟩
    · -- a digit of the great one
      refine ⟨trivial, 2, .int c, rfl, rfl, n0, trivial, 2, .int c, rfl, rfl, cdivW n0 nl, trivial, 2, 2, rfl, rfl, hk _ (Int.emod_nonneg _ (by omega)) (Int.emod_lt_of_pos _ n0), i, c / n, s, ⟨i0, i9, Int.ediv_nonneg c0 (by omega), s0, s9⟩, rfl⟩
    · have m1 := Int.emod_nonneg (s * s) (show (2147483629 : Int) ≠ 0 by decide)
      have m2 := Int.emod_lt_of_pos (s * s) (show (0 : Int) < 2147483629 by decide)
      refine ⟨trivial, 3, .int s, rfl, rfl, trivial, 3, .int s, rfl, rfl, cmulW (by omega) (by omega), (by show (0 : Int) < 2147483629; decide), cmulW (by omega) (by decide), trivial, 3, .int s, rfl, rfl, cmulW (by omega) (by decide), ?_⟩
      have m3 := Int.emod_nonneg (s * s % 2147483629 * 16807 + s * 31 + 12345) (show (2147483647 : Int) ≠ 0 by decide)
      have m4 := Int.emod_lt_of_pos (s * s % 2147483629 * 16807 + s * 31 + 12345) (show (0 : Int) < 2147483647 by decide)
      refine ⟨(by show (0 : Int) < 2147483647; decide), trivial, 3, 3, rfl, rfl, trivial, 3, _, rfl, rfl, cdivW (by decide) (by decide), trivial, 3, _, rfl, rfl, (by show (0 : Int) < 4093; decide), cmulW ?_ (by decide), n0, hk _ (Int.emod_nonneg _ (by omega)) (Int.emod_lt_of_pos _ n0), i, c, _, ⟨i0, i9, c0, m3, m4⟩, rfl⟩
      have m5 := Int.emod_nonneg ((s * s % 2147483629 * 16807 + s * 31 + 12345) % 2147483647) (show (4093 : Int) ≠ 0 by decide)
      have m6 := Int.emod_lt_of_pos ((s * s % 2147483629 * 16807 + s * 31 + 12345) % 2147483647) (show (0 : Int) < 4093 by decide)
      show ((s * s % 2147483629 * 16807 + s * 31 + 12345) % 2147483647 % 4093).natAbs < 2 ^ 64
      omega

/-- _law_of -/
theorem ok_law_of (T : Txt P w K mg base C_Derivation C_Grammar C_InvalidName C_InvalidRule C_InvalidSequence C_InvalidStep C_LimitExceeded C_NoMatch C_OutOfRange C_TerminalSymbol C_UnknownSymbol C_DuplicateName C_UnknownUser C_MissingWeight C_RuleMismatch C_StepFailed C_StepInUse C_InvalidPath C_InvalidPoint C_Blocked C_InvalidFile C_SunderError C_NotFound) (G__law_pull : Cal P w K mg base "_law_pull" 1 2 spPull) : Cal P w K mg base "_law_of" 2 2 spOf := by
  refine dcal_ok T.d__law_of sc_law_of bi_law_of (fun f Z cdv A outer s H E hr => (have hu := hu100 hr; have nd := sc_law_of.nd; (dss_one (ds_ret (dix 1 hu (dcall G__law_pull (hr.mono (by decide)) (da_cons (dv 0) (da_cons (de_callB co_len cd_len (by rfl) T.z_len (by decide +kernel) (da_cons (dv 1) da_nil)) da_nil)))))))) ?_
  rintro ds Q E ⟨p, x, rfl, h⟩
  cases x with
  | str z =>
    obtain ⟨h0, hz, hq⟩ := h
    refine ⟨trivial, hz, rfl, p, _, rfl, by omega, line_log hz, fun k k0 k9 => ?_⟩
    obtain ⟨c, hc, hm⟩ := atI_mem (xs := z.cps.toList) k0 (by rw [Array.length_toList]; exact k9)
    exact ⟨k, c, rfl, hz, hc, hq c hm⟩
  | lst xs =>
    obtain ⟨h0, hz, hq⟩ := h
    have h1 : 0 < xs.length := List.length_pos_iff.mpr h0
    refine ⟨trivial, rfl, p, _, rfl, by omega, line_log hz, fun k k0 k9 => ?_⟩
    obtain ⟨c, hc, hm⟩ := atI_mem (xs := xs) k0 k9
    exact ⟨k, c, rfl, hc, hq c hm⟩
  | tup xs =>
    obtain ⟨h0, hz, hq⟩ := h
    have h1 : 0 < xs.length := List.length_pos_iff.mpr h0
    refine ⟨trivial, rfl, p, _, rfl, by omega, line_log hz, fun k k0 k9 => ?_⟩
    obtain ⟨c, hc, hm⟩ := atI_mem (xs := xs) k0 k9
    exact ⟨k, c, rfl, hc, hq c hm⟩
  | _ => exact False.elim h

/-- _law_possible -/
theorem ok_law_possible (T : Txt P w K mg base C_Derivation C_Grammar C_InvalidName C_InvalidRule C_InvalidSequence C_InvalidStep C_LimitExceeded C_NoMatch C_OutOfRange C_TerminalSymbol C_UnknownSymbol C_DuplicateName C_UnknownUser C_MissingWeight C_RuleMismatch C_StepFailed C_StepInUse C_InvalidPath C_InvalidPoint C_Blocked C_InvalidFile C_SunderError C_NotFound) : Cal P w K mg base "_law_possible" 1 2 spLawPoss := by
  refine dcal_ok T.d__law_possible sc_law_possible bi_law_possible (fun f Z cdv A outer s H E hr => (have hu := hu100 hr; have nd := sc_law_possible.nd; (dss_cons (ds_par (i := 2) (j := 3) rfl nd rfl rfl (by decide) rfl rfl (da_cons (de_lrg1 rfl (by rfl) T.z_list (by rfl) T.z_range (de_callB co_len cd_len (by rfl) T.z_len (by decide +kernel) (da_cons (dv 1) da_nil))) (da_cons (de_callB (co_sort rfl) cd_sort (by rfl) T.z_sorted (by decide +kernel) (da_cons (de_lc (own := [("_law_name", 4)]) rfl nd (di_seq (dv 0)) (blkOk_by (N := ["_law_rules_here", "_law_sequence_here", "_law_places", "_law_names_here", "_law_name", "_law_found", "_law_place", "_law_some"]) (sc := defScope s_law_possible) (by decide +kernel)) (fun _ _ _ _ _ => (dgn 4 nd)) (fun _ _ _ _ _ => (dts_one (dt_cmp (oo_ne hu) od_ne (dix 0 hu (dv 4)) (de_tup da_nil) (nomark _)))) (fun _ _ _ _ _ => (dv 4))) da_nil)) da_nil)) (by rfl))
    (dss_cons (ds_setLcO (i := 5) rfl nd rfl rfl (L2.sw_true rfl rfl rfl (by decide +kernel)) (own := [("_law_place", 6)]) (di_seq (dv 2)) (blkOk_by (N := ["_law_rules_here", "_law_sequence_here", "_law_places", "_law_names_here", "_law_name", "_law_found", "_law_place", "_law_some"]) (sc := defScope s_law_possible) (by decide +kernel)) (fun _ _ _ _ _ => (dgn 6 nd)) (fun _ _ _ _ _ => (dts_one (dt_cmp (oo_ne hu) od_ne (dix 0 hu (dix 1 hu (dv 6))) (de_tup da_nil) (nomark _)))) (fun _ _ _ _ _ => (de_tup (da_cons de_str (da_cons (dv 6) da_nil)))))
    (dss_cutc (ds_wp [0, 1, 2, 3, 4, 6, 7] (ds_for rfl (di_wp [2, 4, 6, 7] (di_seq (dv 2))) (dgn 6 nd) (dss_wp [2, 4, 6, 7] (dss_cons (ds_setLc (i := 7) rfl nd rfl rfl (L2.sw_true rfl rfl rfl (by decide +kernel)) (own := [("_law_name", 4)]) (di_seq (dv 3)) (blkOk_by (N := ["_law_rules_here", "_law_sequence_here", "_law_places", "_law_names_here", "_law_name", "_law_found", "_law_place", "_law_some"]) (sc := defScope s_law_possible) (by decide +kernel)) (fun _ _ _ _ _ => (dgn 4 nd)) (fun _ _ _ _ _ => (dts_one (dt_cmp (oo_eq hu) od_eq (de_slice oo_sl od_sl (dv 1) (do_some (dv 6)) (do_some (de_op op_add od_addI (dv 6) (de_callB co_len cd_len (by rfl) T.z_len (by decide +kernel) (da_cons (dix 0 hu (dv 4)) da_nil))))) (dix 0 hu (dv 4)) (nomark _)))) (fun _ _ _ _ _ => (dv 4)))
    (dss_one (ds_mut 5 PySem.F.slot_list_extend PySem.F.type_list_extend mt_extend mu_ext (de_lc (own := [("_law_name", 4)]) rfl nd (di_seq (dv 7)) (blkOk_by (N := ["_law_rules_here", "_law_sequence_here", "_law_places", "_law_names_here", "_law_name", "_law_found", "_law_place", "_law_some"]) (sc := defScope s_law_possible) (by decide +kernel)) (fun _ _ _ _ _ => (dgn 4 nd)) (fun _ _ _ _ _ => dts_nil) (fun _ _ _ _ _ => (de_tup (da_cons de_str (da_cons (dv 6) (da_cons (dv 4) da_nil))))))))))))
    (dss_one (ds_ret (dv 5)))))))) ?_
  rintro ds Q E ⟨r, s, rfl, g, hs, hl, hq⟩
  have e0 := len_encS s
  have e3 : (((s.map DV.str).length : Int) - 0).toNat = s.length := by rw [e0]; omega
  have hx : ∀ {p : Nat}, p < s.length → (s.map DV.str)[p]? = some (.str (s.getD p "")) := fun {p} hp => by rw [List.getElem?_map, List.getD_eq_getElem?_getD, List.getElem?_eq_getElem hp]; rfl
  refine ⟨⟨by omega, by omega, by omega, by omega, by rw [e3]; omega⟩, ?_, ?_⟩
  · show ((keysR r).map keyV).length ≤ sizeLine
    rw [List.length_map, len_keysR, sizeLine_eq]; have := g.len; omega
  show dLcW _ _ _ _ _ ((keysR r).map keyV) _ _
  rw [keysR_keyV]
  refine lc_filter (e := DV.str) (c := DV.str) (fun x => !(getR r x).isEmpty) (fun x => x) rfl (fun x hx Q N hY hN => ?_) ?_
  · refine ⟨trivial, ?_⟩
    refine ixR_go hx ?_
    refine ⟨Nat.zero_le _, eqS_nil (g.strs (g.get hx).2.2) ?_⟩
    refine ⟨_, rfl, ?_⟩
    refine ite2 (fun h => ?_) (fun h => ?_)
    · exact hY h _ rfl
    · exact hN (by simpa using h) _ rfl
  refine sort_go (by have := g.len; have := List.length_filter_le (fun x => !(getR r x).isEmpty) (namesR r); simp [namesR] at this ⊢; omega) ?_
  generalize hns : srtS ((namesR r).filter fun x => !(getR r x).isEmpty) = ns
  have hm : ∀ x ∈ ns, x ∈ namesR r := fun x h => by rw [← hns] at h; exact (List.mem_filter.mp (srtS_mem.mp h)).1
  have hn8 : ns.length ≤ 8 := by rw [← hns, srtS_len]; have := g.len; have := List.length_filter_le (fun x => !(getR r x).isEmpty) (namesR r); simp [namesR] at this ⊢; omega
  refine ⟨range_line' (by omega), ?_⟩
  show dLcW _ _ _ _ _ (rangeD 0 _) _ _
  rw [e3, range_map]
  refine lc_filter (e := fun p : Nat => DV.int (p : Int)) (c := encP) (fun p => !(getR r (s.getD p "")).isEmpty) Sp1.ex rfl (fun p hp Q N hY hN => ?_) ?_
  · have hp := List.mem_range.mp hp
    have hk := hs.2.1 _ (getD_mem hp)
    refine ⟨trivial, trivial, _, _, rfl, atI_nat (hx hp), ?_⟩
    refine ixR_go hk ?_
    refine ⟨Nat.zero_le _, eqS_nil (g.strs (g.get hk).2.2) ?_⟩
    refine ⟨_, rfl, ?_⟩
    refine ite2 (fun h => ?_) (fun h => ?_)
    · refine ⟨by show 2 ≤ sizeLine; decide, ?_⟩
      exact hY h _ rfl
    · exact hN (by simpa using h) _ rfl
  generalize hA : (((List.range s.length).filter fun p => !(getR r (s.getD p "")).isEmpty).map Sp1.ex) = A
  refine ⟨by show 5 < 8; decide, fun ρ => ρ = [none, none, none, none, none, some (Lv.own (.lst ((possP r s).map encP))), none, none], ?_, ?_⟩
  rotate_left
  · rintro ρ rfl
    exact hq
  generalize hB : (fun p : Nat => ((ns.filter fun x => decide ((s.drop p).take (getR r x).length = getR r x)).map fun x => Sp1.co p x)) = B
  have hP : possP r s = A ++ (List.range s.length).flatMap B := by rw [← hA, ← hB, ← hns]; rfl
  rw [← range_map]
  refine walk_range (n := s.length) (fun k ρ => ρ = [some (Lv.val (encR r)), some (Lv.val (encS s)), none, some (Lv.val (.lst (ns.map DV.str))), none, some (Lv.own (.lst ((A ++ (List.range k).flatMap B).map encP))), none, none]) ?_ ?_ ?_
  · rw [List.range_zero, List.flatMap_nil, List.append_nil, ← hA, List.map_map]
    rfl
  · rintro ρ rfl
    rw [← hP]
    rfl
  · rintro k ρ K' hk hn' _ _ _ rfl
    refine ⟨line6 (by rw [List.length_map]; omega), ?_⟩
    refine lc_filter (e := DV.str) (c := DV.str) (fun x => decide ((s.drop k).take (getR r x).length = getR r x)) (fun x => x) rfl (fun x hx Q N hY hN => ?_) ?_
    · have hx' := hm x hx
      obtain ⟨a1, a2, a3⟩ := g.get hx'
      have el := len_encS (getR r x)
      have e2 : ((k : Int) + (((getR r x).map DV.str).length : Nat)) = ((k + (getR r x).length : Nat) : Int) := by rw [el]; omega
      refine ⟨_, rfl, trivial, ?_⟩
      refine ixR_go hx' ?_
      refine ⟨_, rfl, ?_⟩
      show fSl (encS s) (some (k : Int)) (some ((k : Int) + (((getR r x).map DV.str).length : Nat))) _
      rw [e2]
      refine slS_mid ?_
      rw [Nat.add_sub_cancel_left]
      refine ⟨trivial, ?_⟩
      refine ixR_go hx' ?_
      refine eqS_go (fun y hy => g.strs hs.2.1 y (List.mem_of_mem_drop (List.mem_of_mem_take hy))) (g.strs a3) ?_
      refine ⟨_, rfl, iteP (fun h => ?_) (fun h => ?_)⟩
      · exact hY (decide_eq_true h) _ rfl
      · exact hN (decide_eq_false h) _ rfl
    have hf : (ns.filter fun x => decide ((s.drop k).take (getR r x).length = getR r x)).length ≤ 8 := Nat.le_trans (List.length_filter_le ..) hn8
    refine ⟨⟨_, rfl⟩, line6 (by rw [List.length_map]; omega), ?_⟩
    refine lc_map (e := DV.str) (c := encP) (fun x => Sp1.co k x) rfl (fun x hx Q hQ => ?_) ?_
    · refine ⟨by show 3 ≤ sizeLine; decide, ?_⟩
      exact hQ _ rfl
    have hA1 : A.length ≤ s.length := by rw [← hA, List.length_map]; have := List.length_filter_le (fun p => !(getR r (s.getD p "")).isEmpty) (List.range s.length); rw [List.length_range] at this; exact this
    have hB1 : ∀ p, (B p).length ≤ 8 := fun p => by rw [← hB]; rw [List.length_map]; exact Nat.le_trans (List.length_filter_le ..) hn8
    have hF := flat_len hB1 k
    have hBk : ((ns.filter fun x => decide ((s.drop k).take (getR r x).length = getR r x)).map fun x => encP (Sp1.co k x)) = (B k).map encP := by rw [← hB, List.map_map]; rfl
    have e5 : A ++ (List.range (k + 1)).flatMap B = (A ++ (List.range k).flatMap B) ++ B k := by rw [List.range_succ, List.flatMap_append, List.flatMap_singleton, List.append_assoc]
    rw [hBk]
    have := hB1 k
    refine ⟨?_, ?_⟩
    · refine line6 ?_
      rw [List.length_map, List.length_map, List.length_append]
      omega
    rw [← List.map_append, ← e5]
    exact hn' _ rfl

/-- _law_any_step -/
theorem ok_law_any_step (T : Txt P w K mg base C_Derivation C_Grammar C_InvalidName C_InvalidRule C_InvalidSequence C_InvalidStep C_LimitExceeded C_NoMatch C_OutOfRange C_TerminalSymbol C_UnknownSymbol C_DuplicateName C_UnknownUser C_MissingWeight C_RuleMismatch C_StepFailed C_StepInUse C_InvalidPath C_InvalidPoint C_Blocked C_InvalidFile C_SunderError C_NotFound) (G__law_of : Cal P w K mg base "_law_of" 2 2 spOf) (G__law_possible : Cal P w K mg base "_law_possible" 1 2 spLawPoss) (G__law_pull : Cal P w K mg base "_law_pull" 1 2 spPull) : Cal P w K mg base "_law_any_step" 3 3 spAnyStep := by
  refine dcal_ok T.d__law_any_step sc_law_any_step bi_law_any_step (fun f Z cdv A outer s H E hr => (have hu := hu100 hr; have nd := sc_law_any_step.nd; (dss_cutc (dset 3 nd (dcall G__law_of (hr.mono (by decide)) (da_cons (dv 0) (da_cons (de_lst (da_cons (dcall G__law_pull (hr.mono (by decide)) (da_cons (dv 0) (da_cons (de_callB co_len cd_len (by rfl) T.z_len (by decide +kernel) (da_cons (dv 2) da_nil)) da_nil))) (da_cons (dcall G__law_pull (hr.mono (by decide)) (da_cons (dv 0) (da_cons (de_callB co_len cd_len (by rfl) T.z_len (by decide +kernel) (da_cons (dv 2) da_nil)) da_nil))) (da_cons (de_neg de_int) (da_cons (de_callB co_len cd_len (by rfl) T.z_len (by decide +kernel) (da_cons (dv 2) da_nil)) (da_cons (de_op op_pow od_i2 de_int de_int) da_nil)))))) da_nil))))
    (dss_cutc (dset 4 nd (dcall G__law_of (hr.mono (by decide)) (da_cons (dv 0) (da_cons (de_op oo_add od_add (de_op oo_mul od_mul (de_callB (co_sort rfl) cd_sort (by rfl) T.z_sorted (by decide +kernel) (da_cons (de_callTy (co_list rfl) cd_list (by rfl) T.z_list (by decide +kernel) (da_cons (dv 1) da_nil)) da_nil)) de_int) (de_lst (da_cons de_str (da_cons de_str da_nil)))) da_nil))))
    (dss_cutc (dset 5 nd (dcall G__law_of (hr.mono (by decide)) (da_cons (dv 0) (da_cons (de_lst (da_cons (de_tup da_nil) (da_cons (de_tup (da_cons de_str da_nil)) (da_cons (de_tup (da_cons de_str (da_cons (dv 3) (da_cons (dv 4) da_nil)))) (da_cons (de_tup (da_cons de_str (da_cons (dv 3) da_nil))) (da_cons (de_tup (da_cons de_str (da_cons (dv 3) (da_cons (dv 4) da_nil)))) (da_cons (de_tup (da_cons de_str (da_cons de_int da_nil))) da_nil))))))) da_nil))))
    (dss_cutc (dset 6 nd (de_op oo_add od_add (dcall G__law_possible (hr.mono (by decide)) (da_cons (dv 1) (da_cons (dv 2) da_nil))) (de_lst (da_cons (de_tup (da_cons de_str (da_cons (dv 3) da_nil))) da_nil))))
    (dss_one (ds_ret (dcall G__law_of (hr.mono (by decide)) (da_cons (dv 0) (da_cons (de_lst (da_cons (de_tup (da_cons de_str (da_cons (dv 3) da_nil))) (da_cons (de_tup (da_cons de_str (da_cons (dv 3) (da_cons (dv 4) da_nil)))) (da_cons (de_tup (da_cons de_str (da_cons (dv 3) (da_cons (dv 4) da_nil)))) (da_cons (dv 5) (da_cons (dcall G__law_of (hr.mono (by decide)) (da_cons (dv 0) (da_cons (dv 6) da_nil))) da_nil)))))) da_nil))))))))))) ?_
  rintro ds Q E ⟨b, r, s, rfl, hr, hs, hl, hq⟩
  have g := hr.1
  have e0 := len_encS s
  have s1 : 1 ≤ s.length := List.length_pos_iff.mpr hs.1
  have hrl := g.len
  refine ⟨fun ρ => ∃ i : Int, -1 ≤ i ∧ i ≤ 10 ^ 20 ∧ ρ = [some (Lv.val (.bag b)), some (Lv.val (encR r)), some (Lv.val (encS s)), some (Lv.val (.int i)), none, none, none], ?_, ?_⟩
  · refine pull_go (by omega) (by rw [e0]; exact line_log (line6 (by omega))) fun k1 k10 k19 => ?_
    refine pull_go (by omega) (by rw [e0]; exact line_log (line6 (by omega))) fun k2 k20 k29 => ?_
    refine ⟨⟨by decide, by decide, by decide⟩, by show 5 ≤ sizeLine; decide, rfl, b, _, rfl, by simp, by show 5 ≤ sizeLine; decide, fun d hd => ?_⟩
    have fin : ∀ i : Int, -1 ≤ i → i ≤ 10 ^ 20 → _ := fun i i1 i2 => (⟨i, i1, i2, rfl⟩ : ∃ i : Int, -1 ≤ i ∧ i ≤ 10 ^ 20 ∧ _)
    simp only [List.mem_cons, List.not_mem_nil, or_false] at hd
    rcases hd with rfl | rfl | rfl | rfl | rfl
    · exact ⟨k1, by omega, by omega, rfl⟩
    · exact ⟨k2, by omega, by omega, rfl⟩
    · exact ⟨-1, by omega, by omega, rfl⟩
    · exact ⟨((s.map DV.str).length : Nat), by omega, by omega, rfl⟩
    · exact ⟨10 ^ 20, by omega, by omega, rfl⟩
  rintro ρ ⟨i, i1, i2, rfl⟩
  refine ⟨fun ρ => ∃ x : Str, x.length ≤ 1000 ∧ PyData.strOk x = true ∧ ρ = [some (Lv.val (.bag b)), some (Lv.val (encR r)), some (Lv.val (encS s)), some (Lv.val (.int i)), some (Lv.val (.str x)), none, none], ?_, ?_⟩
  · show fSort [.lst ((keysR r).map keyV)] _
    rw [keysR_keyV]
    refine sort_go (by simp [namesR]; omega) ?_
    have hsl : ((srtS (namesR r)).map DV.str).length ≤ 8 := by rw [List.length_map, srtS_len]; simpa [namesR] using hrl
    refine ⟨by decide, by decide, by show _ * 2 ≤ sizeLine; exact line6 (by omega), by show 2 ≤ sizeLine; decide, ?_⟩
    show fAdd (.lst (List.replicate 2 ((srtS (namesR r)).map DV.str)).flatten) _ _
    rw [show (List.replicate 2 ((srtS (namesR r)).map DV.str)).flatten = (srtS (namesR r) ++ srtS (namesR r)).map DV.str by rw [List.map_append]; simp [List.replicate]]
    refine addL_go (by rw [List.map_append, List.length_append]; show _ + 2 ≤ _; omega) ?_
    refine ⟨rfl, b, _, rfl, by simp, by rw [List.map_append, List.length_append, List.length_append]; exact line6 (by show _ + 2 ≤ _; omega), fun d hd => ?_⟩
    rw [List.mem_append] at hd
    rcases hd with hd | hd
    · obtain ⟨x, hx, rfl⟩ := List.mem_map.mp hd
      have hx : x ∈ namesR r := by rcases List.mem_append.mp hx with h | h <;> exact srtS_mem.mp h
      exact ⟨x, by have := (nameB_len (g.nm x hx)).2; omega, nameB_ok (g.nm x hx), rfl⟩
    · simp only [List.mem_cons, List.not_mem_nil, or_false] at hd
      rcases hd with rfl | rfl
      · exact ⟨"", by decide, by decide +kernel, rfl⟩
      · exact ⟨"A", by decide, by decide +kernel, rfl⟩
  rintro ρ ⟨x, x1, x2, rfl⟩
  refine ⟨fun ρ => ∃ t : SpX, AnyX t ∧ ρ = [some (Lv.val (.bag b)), some (Lv.val (encR r)), some (Lv.val (encS s)), some (Lv.val (.int i)), some (Lv.val (.str x)), some (Lv.val (encX t)), none], ?_, ?_⟩
  · refine ⟨by show 0 ≤ sizeLine; decide, by show 1 ≤ sizeLine; decide, by show 3 ≤ sizeLine; decide, by show 2 ≤ sizeLine; decide, by show 3 ≤ sizeLine; decide, by show 2 ≤ sizeLine; decide, by show 6 ≤ sizeLine; decide, rfl, b, _, rfl, by simp, by show 6 ≤ sizeLine; decide, fun d hd => ?_⟩
    simp only [List.mem_cons, List.not_mem_nil, or_false] at hd
    rcases hd with rfl | rfl | rfl | rfl | rfl | rfl
    · exact ⟨.od [], ⟨rfl, .inl rfl⟩, rfl⟩
    · exact ⟨.od _, ⟨rfl, .inr ⟨_, _, rfl⟩⟩, rfl⟩
    · refine ⟨.od _, ⟨?_, .inr ⟨_, _, rfl⟩⟩, rfl⟩
      exact (decide_eq_false (by decide +kernel) : decide (("expand" : Str) = "contract") = false)
    · refine ⟨.od _, ⟨?_, .inr ⟨_, _, rfl⟩⟩, rfl⟩
      exact (decide_eq_false (by decide +kernel) : decide (("contract" : Str) = "expand") = false)
    · refine ⟨.od _, ⟨?_, .inr ⟨_, _, rfl⟩⟩, rfl⟩
      exact (decide_eq_false (by decide +kernel) : decide (("join" : Str) = "contract") = false)
    · exact ⟨.od _, ⟨by decide +kernel, .inr ⟨_, _, rfl⟩⟩, rfl⟩
  rintro ρ ⟨t, ht, rfl⟩
  refine ⟨fun ρ => ∃ ps : List Sp1, (∀ t ∈ ps, okP r s t) ∧ ps.length ≤ 9000 ∧ ρ = [some (Lv.val (.bag b)), some (Lv.val (encR r)), some (Lv.val (encS s)), some (Lv.val (.int i)), some (Lv.val (.str x)), some (Lv.val (encX t)), some (Lv.val (.lst (ps.map encP ++ [encX (.ex i)])))], ?_, ?_⟩
  · refine ⟨rfl, r, s, rfl, g, hs, by omega, by show 2 ≤ sizeLine; decide, by show 1 ≤ sizeLine; decide, ?_⟩
    have pl := poss_len (s := s) g
    refine addL_go (by rw [List.length_map]; show _ + 1 ≤ _; omega) ?_
    exact ⟨possP r s, fun t ht => possP_ok ht, by omega, rfl⟩
  rintro ρ ⟨ps, pk, pl, rfl⟩
  refine ⟨by show 2 ≤ sizeLine; decide, by show 3 ≤ sizeLine; decide, by show 3 ≤ sizeLine; decide, rfl, b, _, rfl, by simp, by rw [List.length_append, List.length_map]; exact line6 (by show _ + 1 ≤ _; omega), fun d hd => ?_⟩
  refine ⟨by show 5 ≤ sizeLine; decide, rfl, b, _, rfl, by simp, by show 5 ≤ sizeLine; decide, fun d' hd' => ?_⟩
  have hd2 : ∃ t : SpX, AnyX t ∧ d = encX t := by
    rcases List.mem_append.mp hd with h | h
    · obtain ⟨t, h', rfl⟩ := List.mem_map.mp h
      refine ⟨toX t, ?_, (encX_to t).symm⟩
      have ok := pk t h'
      cases t with
      | ex p => exact ⟨by omega, by have := ok.1; omega⟩
      | co p x => exact ⟨by omega, by have := ok.1; omega, by have := (nameB_len (g.nm x ok.2.1)).2; omega, nameB_ok (g.nm x ok.2.1)⟩
    · simp only [List.mem_cons, List.not_mem_nil, or_false] at h
      exact ⟨.ex i, ⟨i1, i2⟩, h⟩
  simp only [List.mem_cons, List.not_mem_nil, or_false] at hd'
  rcases hd' with rfl | rfl | rfl | rfl | rfl
  · exact hq (.ex i) ⟨i1, i2⟩
  · exact hq (.co i x) ⟨i1, i2, x1, x2⟩
  · exact hq (.co i x) ⟨i1, i2, x1, x2⟩
  · exact hq t ht
  · obtain ⟨t, ht, rfl⟩ := hd2
    exact hq t ht

theorem ok_law_bag (T : Txt P w K mg base C_Derivation C_Grammar C_InvalidName C_InvalidRule C_InvalidSequence C_InvalidStep C_LimitExceeded C_NoMatch C_OutOfRange C_TerminalSymbol C_UnknownSymbol C_DuplicateName C_UnknownUser C_MissingWeight C_RuleMismatch C_StepFailed C_StepInUse C_InvalidPath C_InvalidPoint C_Blocked C_InvalidFile C_SunderError C_NotFound) : ∃ (f : Addr) (fd : FuncData), FnOk P w K mg base CX0 1 f fd ["_law_script"] (spBag K) ∧ mg "_law_bag" = some (.ref f) ∧ PySem.W.keepIn K (.ref f) = true ∧ Binds K fd ["_law_script"] [] := by
  obtain ⟨f, fd, F, m⟩ := T.d__law_bag.ex
  refine ⟨f, fd, F.ok sc_law_bag (fun vs H Q E ⟨a, ns, e, _⟩ => by rw [e]; rfl) (fun cdv A outer s H vs Q E hr h => ⟨_, ?_, bag_read h⟩), m, F.kp, F.binds bi_law_bag⟩
  have nd := sc_law_bag.nd
  exact pss_cons (ps_set (i := 1) nd rfl (.inl rfl) pe_int) (pss_cons
    (ps_for PassesOwn.never rfl (pi_list (pe_slice sl_list (pv 0) po_none (po_some pe_int))) (pg_name (i := 2) nd rfl (.inl rfl))
      (pss_one (ps_set (i := 1) nd rfl (.inl rfl) (pe_op op_mod (pe_op op_add (pe_op op_add (pe_op op_mul (pv 1) pe_int) (pe_op op_mod (pv 2) pe_int)) pe_int) pe_int))))
    (pss_one (ps_ret (pe_lst (pa_cons (pe_callTy call_list_of (by rfl) T.z_list (by decide +kernel) (pa_cons (pe_slice sl_list (pv 0) po_none (po_some pe_int)) pa_nil)) (pa_cons pe_int (pa_cons pe_int (pa_cons (pv 1) pa_nil))))))))

/-- _law_derivation -/
theorem ok_law_derivation (T : Txt P w K mg base C_Derivation C_Grammar C_InvalidName C_InvalidRule C_InvalidSequence C_InvalidStep C_LimitExceeded C_NoMatch C_OutOfRange C_TerminalSymbol C_UnknownSymbol C_DuplicateName C_UnknownUser C_MissingWeight C_RuleMismatch C_StepFailed C_StepInUse C_InvalidPath C_InvalidPoint C_Blocked C_InvalidFile C_SunderError C_NotFound) (G_Derivation_init : Kg (L2.CX P w) P w K mg base "Derivation" C_Derivation 6 3 (spDeriv C_Derivation C_Grammar C_InvalidSequence C_LimitExceeded)) (G_Grammar_init : Kg (L2.CX P w) P w K mg base "Grammar" C_Grammar 3 1 (spGrammar C_Grammar C_LimitExceeded C_InvalidName C_InvalidRule)) : Cal P w K mg base "_law_derivation" 8 3 (spLawDeriv C_Derivation C_Grammar) := by
  refine dcal_ok T.d__law_derivation sc_law_derivation bi_law_derivation (fun f Z cdv A outer s H E hr => (have hu := hu100 hr; have nd := sc_law_derivation.nd; (dss_one (ds_ret (dmakeG G_Derivation_init (hr.mono (by decide)) goN (da_cons (dmakeG G_Grammar_init (hr.mono (by decide)) goN (da_cons (de_callTy call_dictD cd_dict (by rfl) T.z_dict (by decide +kernel) (da_cons (dv 0) da_nil)) da_nil)) (da_cons (dv 1) (da_cons (de_callTy (co_list rfl) cd_list (by rfl) T.z_list (by decide +kernel) (da_cons (dv 2) da_nil)) da_nil)))))))) ?_
  rintro ds Q E ⟨r, s, ts, rfl, d, hq⟩
  refine ⟨rfl, r, rfl, d.g.size, ?_⟩
  rw [d.g.err]
  exact deriv_go d.srt hq

/-- _law_names -/
theorem ok_law_names (T : Txt P w K mg base C_Derivation C_Grammar C_InvalidName C_InvalidRule C_InvalidSequence C_InvalidStep C_LimitExceeded C_NoMatch C_OutOfRange C_TerminalSymbol C_UnknownSymbol C_DuplicateName C_UnknownUser C_MissingWeight C_RuleMismatch C_StepFailed C_StepInUse C_InvalidPath C_InvalidPoint C_Blocked C_InvalidFile C_SunderError C_NotFound) (G__law_of : Cal P w K mg base "_law_of" 2 2 spOf) (G__law_pull : Cal P w K mg base "_law_pull" 1 2 spPull) : Cal P w K mg base "_law_names" 3 2 spLawNames := by
  refine dcal_ok T.d__law_names sc_law_names bi_law_names (fun f Z cdv A outer s H E hr => (have hu := hu100 hr; have nd := sc_law_names.nd; (dss_cons (dset 2 nd de_str)
    (dss_cons (dset 3 nd (de_op oo_mul od_mul (dix 2 hu (dcall G__law_pull (hr.mono (by decide)) (da_cons (dv 0) (da_cons de_int da_nil)))) (dcall G__law_pull (hr.mono (by decide)) (da_cons (dv 0) (da_cons de_int da_nil)))))
    (dss_cutc (ds_if (dt_cmp (oo_eq hu) od_eq (dcall G__law_pull (hr.mono (by decide)) (da_cons (dv 0) (da_cons de_int da_nil))) de_int (nomark _)) (dss_one (dset 3 nd (de_ms PySem.F.slot_str_join PySem.F.type_str_join mt_join md_join de_str (da_cons (de_lc (own := [("_law_k", 4)]) rfl nd (di_rng1 (by rfl) T.z_range (da_cons (de_callB co_len cd_len (by rfl) T.z_len (by decide +kernel) (da_cons (dv 3) da_nil)) da_nil)) (blkOk_by (N := ["_law_bag_here", "_law_count", "_law_letters", "_law_stem", "_law_k", "_law_spot", "_law_first"]) (sc := defScope s_law_names) (by decide +kernel)) (fun _ _ _ _ _ => (dgn 4 nd)) (fun _ _ _ _ _ => dts_nil) (fun _ _ _ _ _ => (dcall G__law_of (hr.mono (by decide)) (da_cons (dv 0) (da_cons (dv 2) da_nil))))) da_nil)))) dss_nil)
    (dss_cons (ds_asg (de_tup (da_cons (dcall G__law_pull (hr.mono (by decide)) (da_cons (dv 0) (da_cons (de_op op_add od_addI (de_callB co_len cd_len (by rfl) T.z_len (by decide +kernel) (da_cons (dv 3) da_nil)) de_int) da_nil))) (da_cons (dcall G__law_pull (hr.mono (by decide)) (da_cons (dv 0) (da_cons de_int da_nil))) da_nil))) (dg_tl (n := 2) rfl (dgs_cons (dgn 5 nd) (dgs_cons (dgn 6 nd) dgs_nil))))
    (dss_one (ds_ret (de_lc (own := [("_law_k", 4)]) rfl nd (di_rng1 (by rfl) T.z_range (da_cons (dv 1) da_nil)) (blkOk_by (N := ["_law_bag_here", "_law_count", "_law_letters", "_law_stem", "_law_k", "_law_spot", "_law_first"]) (sc := defScope s_law_names) (by decide +kernel)) (fun _ _ _ _ _ => (dgn 4 nd)) (fun _ _ _ _ _ => dts_nil) (fun _ _ _ _ _ => (de_op oo_add od_add (de_op oo_add od_add (de_slice oo_sl od_sl (dv 3) do_none (do_some (dv 5))) (dix 2 hu (de_op op_mod od_i2 (de_op op_add od_addI (dv 6) (de_op oo_mul od_mul de_int (dv 4))) de_int))) (de_slice oo_sl od_sl (dv 3) (do_some (dv 5)) do_none)))))))))))) ?_
  rintro ds Q E ⟨b, n, rfl, n1, n8, hq⟩
  have lL : LowC (sg letters) := fun c h => h
  have hL : letters.length ≤ sizeLine := by rw [letters_len, sizeLine_eq]; decide
  have eL : (sg letters).length = 26 := by rw [sg_len, letters_len]
  refine ⟨trivial, pull_go (by decide) (by decide) fun k k0 k9 => ⟨k, _, rfl, hL, letter_at k0 k9, ?_⟩⟩
  refine pull_go (by decide) (by decide) fun m m0 m9 => ⟨by omega, by omega, by show 1 ≤ 1000; decide, ?_⟩
  have lz : LowC (sg (repS ⟨#[97 + k.toNat]⟩ m.toNat)) := low_rep (fun c hc => by rw [List.mem_singleton.mp hc]; exact letter_low k0 k9) _
  have ez : (repS ⟨#[97 + k.toNat]⟩ m.toNat).length ≤ 5 := by rw [len_rep]; show m.toNat * 1 ≤ 5; omega
  generalize repS ⟨#[97 + k.toNat]⟩ m.toNat = z at lz ez
  refine ⟨fun ρ => ∃ (z : Str) (v6 v7 : Option Lv), LowC (sg z) ∧ z.length ≤ 5 ∧ ρ = [some (Lv.val (.bag b)), some (Lv.val (.int n)), some (Lv.val (.str letters)), some (Lv.val (.str z)), none, v6, v7], ?_, ?_⟩
  · refine pull_go (by decide) (by decide) fun t t0 t9 => ?_
    refine eqI_go ?_
    refine ⟨_, rfl, ite2 (fun _ => ?_) (fun _ => ⟨z, _, _, lz, ez, rfl⟩)⟩
    refine ⟨⟨_, rfl⟩, line6 (by omega), by omega, by omega, range_line' (by omega), ?_⟩
    refine draws_any (fun x : Str => DV.str x) (fun x => x.length = 1 ∧ LowC (sg x)) rfl (fun i Q' _ hQ => ?_) (fun ss e1 e2 => ?_)
    · refine of_str (z := letters) (by rw [letters_len]; decide) (by rw [letters_len]; decide) fun c hc => hQ ⟨#[c]⟩ _ ⟨rfl, fun d hd => ?_⟩ rfl
      rw [List.mem_singleton.mp hd]; exact hc
    · have h1 := len_join_ones fun x hx => (e2 x hx).1
      have h2 : (ss.map Str.length).sum = ss.length := by
        clear h1 e1
        induction ss with
        | nil => rfl
        | cons x r ih => simp only [List.map_cons, List.sum_cons, List.length_cons, (e2 x List.mem_cons_self).1, ih fun y hy => e2 y (List.mem_cons_of_mem _ hy)]; omega
      have h3 : (Str.ofString "").length = 0 := by decide +kernel
      have e1' : ss.length = z.length := by simpa using e1
      refine ⟨_, ss, rfl, .inl rfl, by rw [h2, h3]; omega, ?_⟩
      refine ⟨_, _, _, low_join fun x hx => (e2 x hx).2, ?_, rfl⟩
      have h1' : (Txt.join (Str.ofString "") ss).length = ss.length := h1
      rw [h1']; omega
  · rintro ρ ⟨z, v6, v7, lz, ez, rfl⟩
    refine ⟨line6 (by omega), pull_go (by omega) (line_log (n := z.length + 1) (line6 (by omega))) fun u u0 u9 => ?_⟩
    refine pull_go (by decide) (by decide) fun f f0 f9 => ?_
    refine ⟨by show 2 ≤ sizeLine; decide, rfl, rfl, ?_⟩
    obtain ⟨u, rfl⟩ : ∃ m : Nat, u = (m : Int) := ⟨u.toNat, by omega⟩
    refine ⟨by omega, by omega, range_line' (by omega), ?_⟩
    show dLcW _ _ _ _ _ (rangeD 0 n) _ _
    rw [range_map]
    refine lc_map (e := fun k : Nat => DV.int (k : Int)) (c := DV.str) (fun k => nmS z u f k) rfl (fun k hk Q' hQ => ?_) ?_
    · have hk := List.mem_range.mp hk
      refine ⟨_, rfl, slT_go (z := z) (by omega) ?_⟩
      refine ⟨trivial, cmulW (by decide) (by omega), by show (0 : Int) < 26; decide, _, _, rfl, hL, letter_at (Int.emod_nonneg _ (by decide)) (Int.emod_lt_of_pos _ (by decide)), ?_⟩
      have l1 := cutS_length z none (some (u : Int))
      have l2 := cutS_length z (some (u : Int)) none
      have l3 : (Str.mk #[97 + ((f + 5 * (k : Int)) % 26).toNat]).length = 1 := rfl
      have l4 := app_len (cutS z none (some (u : Int))) ⟨#[97 + ((f + 5 * (k : Int)) % 26).toNat]⟩
      refine addT_go (by rw [l3]; omega) ?_
      refine ⟨_, rfl, slT_go (z := z) (by omega) ?_⟩
      refine addT_go (by omega) ?_
      exact hQ _ rfl
    · have := hq ((List.range n).map (nmS z u f)) (by simp) (nms_nodup (by omega)) (fun x hx => by obtain ⟨k, _, rfl⟩ := List.mem_map.mp hx; exact nm_ok lz ez)
      rw [List.map_map] at this
      exact this

/-- _law_rules -/
theorem ok_law_rules (T : Txt P w K mg base C_Derivation C_Grammar C_InvalidName C_InvalidRule C_InvalidSequence C_InvalidStep C_LimitExceeded C_NoMatch C_OutOfRange C_TerminalSymbol C_UnknownSymbol C_DuplicateName C_UnknownUser C_MissingWeight C_RuleMismatch C_StepFailed C_StepInUse C_InvalidPath C_InvalidPoint C_Blocked C_InvalidFile C_SunderError C_NotFound) (G__law_names : Cal P w K mg base "_law_names" 3 2 spLawNames) (G__law_of : Cal P w K mg base "_law_of" 2 2 spOf) (G__law_pull : Cal P w K mg base "_law_pull" 1 2 spPull) : Cal P w K mg base "_law_rules" 4 1 spLawRules := by
  refine dcal_ok T.d__law_rules sc_law_rules bi_law_rules (fun f Z cdv A outer s H E hr => (have hu := hu100 hr; have nd := sc_law_rules.nd; (dss_cons (dset 1 nd (dcall G__law_names (hr.mono (by decide)) (da_cons (dv 0) (da_cons (dcall G__law_of (hr.mono (by decide)) (da_cons (dv 0) (da_cons (de_lst (da_cons de_int (da_cons de_int (da_cons de_int (da_cons de_int (da_cons de_int (da_cons de_int (da_cons de_int da_nil)))))))) da_nil))) da_nil))))
    (dss_cutc (dson 2 nd dn_dic0)
    (dss_cutc (ds_wp [3, 4, 5] (ds_for rfl (di_wp [3, 4, 5] (di_seq (dv 1))) (dgn 3 nd) (dss_wp [3, 4, 5] (dss_cons (dset 4 nd (dcall G__law_of (hr.mono (by decide)) (da_cons (dv 0) (da_cons (de_lst (da_cons de_int (da_cons de_int (da_cons de_int (da_cons de_int (da_cons de_int (da_cons de_int da_nil))))))) da_nil))))
    (dss_one (dput 2 hu (dv 3) (de_callTy call_tuple_of cd_tuple (by rfl) T.z_tuple (by decide +kernel) (da_cons (de_lc (own := [("_law_k", 5)]) rfl nd (di_rng1 (by rfl) T.z_range (da_cons (dv 4) da_nil)) (blkOk_by (N := ["_law_bag_here", "_law_names_here", "_law_rules_here", "_law_name", "_law_width", "_law_k"]) (sc := defScope s_law_rules) (by decide +kernel)) (fun _ _ _ _ _ => (dgn 5 nd)) (fun _ _ _ _ _ => dts_nil) (fun _ _ _ _ _ => (dcall G__law_of (hr.mono (by decide)) (da_cons (dv 0) (da_cons (dv 1) da_nil))))) da_nil))))))))
    (dss_cons (ds_if (dt_cmp (oo_eq hu) od_eq (dcall G__law_pull (hr.mono (by decide)) (da_cons (dv 0) (da_cons de_int da_nil))) de_int (nomark _)) (dss_one (dput 2 hu (dix 1 hu de_int) (dix 2 hu (dix 1 hu (de_neg de_int))))) dss_nil)
    (dss_one (ds_ret (dv 2))))))))) ?_
  rintro ds Q E ⟨b, rfl, hq⟩
  refine ⟨by show 7 ≤ sizeLine; decide, ?_⟩
  refine of_lst (e := fun n : Nat => DV.int (n : Int)) (xs := [2, 3, 1, 4, 2, 6, 8]) (by decide) (by decide) fun n hn => ?_
  have n1 : 1 ≤ n ∧ n ≤ 8 := by simp at hn; omega
  refine ⟨rfl, b, n, rfl, n1.1, n1.2, fun ns e1 nd nm => ?_⟩
  refine ⟨fun ρ => ρ = [some (Lv.val (.bag b)), some (Lv.val (.lst (ns.map DV.str))), some (Lv.own (.dic [] [])), none, none, none], ⟨by show 2 < 6; decide, rfl⟩, ?_⟩
  rintro ρ rfl
  refine ⟨fun ρ => ∃ r : Rules, GrOk r ∧ namesR r = ns ∧ ρ = [some (Lv.val (.bag b)), some (Lv.val (.lst (ns.map DV.str))), some (Lv.own (encR r)), none, none, none], ?_, ?_⟩
  · refine walk_on (fun l ρ => ∃ r : Rules, namesR r ++ l = ns ∧ (∀ p ∈ r, p.2.length ≤ 4 ∧ p.2.length ≠ 1 ∧ ∀ x ∈ p.2, x ∈ ns) ∧ ρ = [some (Lv.val (.bag b)), some (Lv.val (.lst (ns.map DV.str))), some (Lv.own (encR r)), none, none, none]) ⟨[], rfl, (fun _ h => nomatch h), rfl⟩ ?_ ?_
    · rintro ρ ⟨r, e, hp, rfl⟩
      rw [List.append_nil] at e
      subst e
      have hl : r.length = n := by rw [← e1]; simp [namesR]
      exact ⟨r, ⟨nd, by omega, nm, hp⟩, rfl, rfl⟩
    · rintro x l ρ K' hn' _ _ _ ⟨r, e, hp, rfl⟩
      refine ⟨by show 6 ≤ sizeLine; decide, ?_⟩
      refine of_lst (e := fun n : Nat => DV.int (n : Int)) (xs := [2, 0, 2, 3, 2, 4]) (by decide) (by decide) fun w hw => ?_
      have w1 : w ≤ 4 ∧ w ≠ 1 := by simp at hw; omega
      refine ⟨by omega, by omega, range_line' (by omega), ?_⟩
      refine draws_any DV.str (fun y => y ∈ ns) rfl (fun i Q' _ hQ => ?_) (fun v v1 v2 => ?_)
      · refine of_lst (e := DV.str) (xs := ns) (by intro h; rw [h] at e1; simp at e1; omega) (by omega) fun y hy => hQ y _ hy rfl
      · have v1 : v.length = w := by simpa using v1
        have nl : r.length ≤ 8 := by
          have : (namesR r ++ x :: l).length = n := by rw [e, e1]
          simp [namesR] at this
          omega
        have hx : x ∉ namesR r := by
          rw [← e] at nd
          intro h
          exact (List.nodup_append.mp nd).2.2 x h x List.mem_cons_self rfl
        refine ⟨trivial, .inr x, rfl, by rw [len_keysR, sizeLine_eq]; omega, ?_⟩
        rw [show putD (keysR r) (r.map fun p => encS p.2) (.inr x) (DV.tup (v.map DV.str)) = _ from putD_new (v := v) hx]
        refine hn' _ ⟨r ++ [(x, v)], by rw [← e]; simp [namesR], fun p hp' => ?_, rfl⟩
        rcases List.mem_append.mp hp' with h | h
        · exact hp p h
        · rw [List.mem_singleton.mp h]; exact ⟨by show v.length ≤ 4; omega, by show v.length ≠ 1; omega, v2⟩
  · rintro ρ ⟨r, g, e, rfl⟩
    have r0 : r ≠ [] := fun h => by rw [h] at e; rw [← e] at e1; simp [namesR] at e1; omega
    refine pull_go (by decide) (by decide) fun t _ _ => ?_
    refine eqI_go ?_
    refine ⟨_, rfl, ite2 (fun _ => ?_) (fun _ => hq r ⟨g, r0⟩)⟩
    have h0 : ns ≠ [] := fun h => by rw [h] at e1; simp at e1; omega
    have h0' : ns.map DV.str ≠ [] := by simpa using h0
    have hlast : ns.getLast h0 ∈ namesR r := by rw [e]; exact List.getLast_mem h0
    have hfirst : ns.head h0 ∈ namesR r := by rw [e]; exact List.head_mem h0
    have el : (ns.map DV.str).getLast h0' = .str (ns.getLast h0) := by simp
    have eh : atI (ns.map DV.str) 0 = some (.str (ns.head h0)) := atI_nat (j := 0) (by cases ns with | nil => exact absurd rfl h0 | cons a l => rfl)
    refine ⟨trivial, trivial, _, _, rfl, atI_last h0', ?_⟩
    rw [el]
    refine ixR_go hlast ?_
    refine ⟨trivial, trivial, _, _, rfl, eh, .inr (ns.head h0), rfl, by rw [len_keysR, sizeLine_eq]; have := g.len; omega, ?_⟩
    rw [putD_set g.nd hfirst]
    exact hq _ ⟨g.set hfirst hlast, fun h => by have := setR_len (v := getR r (ns.getLast h0)) hfirst; rw [h] at this; exact r0 (List.eq_nil_of_length_eq_zero this.symm)⟩

/-- _law_sequence -/
theorem ok_law_sequence (T : Txt P w K mg base C_Derivation C_Grammar C_InvalidName C_InvalidRule C_InvalidSequence C_InvalidStep C_LimitExceeded C_NoMatch C_OutOfRange C_TerminalSymbol C_UnknownSymbol C_DuplicateName C_UnknownUser C_MissingWeight C_RuleMismatch C_StepFailed C_StepInUse C_InvalidPath C_InvalidPoint C_Blocked C_InvalidFile C_SunderError C_NotFound) (G__law_of : Cal P w K mg base "_law_of" 2 2 spOf) (G__law_pull : Cal P w K mg base "_law_pull" 1 2 spPull) : Cal P w K mg base "_law_sequence" 3 3 spLawSeq := by
  refine dcal_ok T.d__law_sequence sc_law_sequence bi_law_sequence (fun f Z cdv A outer s H E hr => (have hu := hu100 hr; have nd := sc_law_sequence.nd; (dss_cons (dset 3 nd (de_callB (co_sort rfl) cd_sort (by rfl) T.z_sorted (by decide +kernel) (da_cons (de_callTy (co_list rfl) cd_list (by rfl) T.z_list (by decide +kernel) (da_cons (dv 1) da_nil)) da_nil)))
    (dss_one (ds_ret (de_callTy call_tuple_of cd_tuple (by rfl) T.z_tuple (by decide +kernel) (da_cons (de_lc (own := [("_law_k", 4)]) rfl nd (di_rng1 (by rfl) T.z_range (da_cons (de_op op_add od_addI de_int (dcall G__law_pull (hr.mono (by decide)) (da_cons (dv 0) (da_cons (dv 2) da_nil)))) da_nil)) (blkOk_by (N := ["_law_bag_here", "_law_rules_here", "_law_most", "_law_names_here", "_law_k"]) (sc := defScope s_law_sequence) (by decide +kernel)) (fun _ _ _ _ _ => (dgn 4 nd)) (fun _ _ _ _ _ => dts_nil) (fun _ _ _ _ _ => (dcall G__law_of (hr.mono (by decide)) (da_cons (dv 0) (da_cons (dv 3) da_nil))))) da_nil))))))) ?_
  rintro ds Q E ⟨b, r, n, rfl, ⟨g, g0⟩, n1, n9, hq⟩
  have hl : r.length ≤ 8 := g.len
  show fSort [.lst ((keysR r).map keyV)] _
  rw [keysR_keyV]
  refine sort_go (by simp [namesR]; omega) ?_
  refine pull_go (by omega) (line_log (n := n) (line6 (by omega))) fun k k0 k9 => ?_
  refine ⟨by omega, by omega, range_line' (by omega), ?_⟩
  have h0 : srtS (namesR r) ≠ [] := fun h => g0 (by have := srtS_len (namesR r); rw [h] at this; exact List.eq_nil_of_length_eq_zero (by simpa [namesR] using this.symm))
  refine draws_any DV.str (fun y => y ∈ namesR r) rfl (fun i Q' _ hQ => ?_) (fun v v1 v2 => ?_)
  · refine of_lst (e := DV.str) h0 (by rw [srtS_len]; simp [namesR]; omega) fun y hy => hQ y _ (srtS_mem.mp hy) rfl
  · exact hq v (by omega) (by omega) v2

/-- _law_after -/
theorem ok_law_after (T : Txt P w K mg base C_Derivation C_Grammar C_InvalidName C_InvalidRule C_InvalidSequence C_InvalidStep C_LimitExceeded C_NoMatch C_OutOfRange C_TerminalSymbol C_UnknownSymbol C_DuplicateName C_UnknownUser C_MissingWeight C_RuleMismatch C_StepFailed C_StepInUse C_InvalidPath C_InvalidPoint C_Blocked C_InvalidFile C_SunderError C_NotFound) : Cal P w K mg base "_law_after" 1 3 spLawAfter := by
  refine dcal_ok T.d__law_after sc_law_after bi_law_after (fun f Z cdv A outer s H E hr => (have hu := hu100 hr; have nd := sc_law_after.nd; (dss_cons (dset 3 nd (dix 2 hu de_int))
    (dss_cons (ds_if (dt_cmp (oo_eq hu) od_eq (dix 2 hu de_int) de_str (nomark _)) (dss_one (ds_ret (de_op oo_add od_add (de_op oo_add od_add (de_slice oo_sl od_sl (dv 1) do_none (do_some (dv 3))) (dix 0 hu (dix 1 hu (dv 3)))) (de_slice oo_sl od_sl (dv 1) (do_some (de_op op_add od_addI (dv 3) de_int)) do_none)))) dss_nil)
    (dss_one (ds_ret (de_op oo_add od_add (de_op oo_add od_add (de_slice oo_sl od_sl (dv 1) do_none (do_some (dv 3))) (de_tup (da_cons (dix 2 hu de_int) da_nil))) (de_slice oo_sl od_sl (dv 1) (do_some (de_op op_add od_addI (dv 3) (de_callB co_len cd_len (by rfl) T.z_len (by decide +kernel) (da_cons (dix 0 hu (dix 2 hu de_int)) da_nil)))) do_none)))))))) ?_
  rintro ds Q E ⟨r, s, t, rfl, g, hs, ht, hq⟩
  have e0 := len_encS s
  have hl := hs.2.2
  cases t with
  | ex p =>
    obtain ⟨hp, hn⟩ := ht
    have hm := hs.2.1 _ (getD_mem hp)
    have hx : (s.map DV.str)[p]? = some (.str (s.getD p "")) := by rw [List.getElem?_map, List.getD_eq_getElem?_getD, List.getElem?_eq_getElem hp]; rfl
    obtain ⟨a1, a2, a3⟩ := g.get hm
    have l1 : (s.take p).length ≤ s.length := by rw [List.length_take]; omega
    refine ⟨trivial, 1, _, rfl, atI_nat (j := 1) rfl, trivial, 0, _, rfl, atI_nat (j := 0) rfl, ?_⟩
    refine eqT_go ?_
    refine ⟨_, rfl, iteY rfl ?_⟩
    refine ⟨_, rfl, slS_to ?_⟩
    refine ⟨trivial, trivial, _, _, rfl, atI_nat hx, ?_⟩
    refine ixR_go hm ?_
    refine addS_go (by omega) ?_
    refine ⟨_, rfl, slS_from (a := p + 1) (addS_go ?_ hq)⟩
    rw [List.length_append, List.length_take, List.length_drop]
    omega
  | co p x =>
    obtain ⟨hp, hm, hk⟩ := ht
    obtain ⟨a1, a2, a3⟩ := g.get hm
    have el := len_encS (getR r x)
    have e2 : ((p : Int) + (((getR r x).map DV.str).length : Nat)) = ((p + (getR r x).length : Nat) : Int) := by rw [el]; omega
    refine ⟨trivial, 1, _, rfl, atI_nat (j := 1) rfl, trivial, 0, _, rfl, atI_nat (j := 0) rfl, ?_⟩
    refine eqT_go ?_
    refine ⟨_, rfl, iteN (by decide) ?_⟩
    refine ⟨_, rfl, slS_to ⟨trivial, 2, _, rfl, atI_nat (j := 2) rfl, by show 1 ≤ sizeLine; decide, ?_⟩⟩
    refine addS_go (b := [x]) (by rw [List.length_take]; simp; omega) ?_
    refine ⟨trivial, trivial, 2, _, rfl, atI_nat (j := 2) rfl, ?_⟩
    refine ixR_go hm ?_
    refine ⟨_, rfl, ?_⟩
    show fSl (encS s) (some ((p : Int) + (((getR r x).map DV.str).length : Nat))) none _
    rw [e2]
    refine slS_from (addS_go ?_ hq)
    rw [List.length_append, List.length_take, List.length_drop]
    simp
    omega

/-- _law_steps -/
theorem ok_law_steps (T : Txt P w K mg base C_Derivation C_Grammar C_InvalidName C_InvalidRule C_InvalidSequence C_InvalidStep C_LimitExceeded C_NoMatch C_OutOfRange C_TerminalSymbol C_UnknownSymbol C_DuplicateName C_UnknownUser C_MissingWeight C_RuleMismatch C_StepFailed C_StepInUse C_InvalidPath C_InvalidPoint C_Blocked C_InvalidFile C_SunderError C_NotFound) (G__law_after : Cal P w K mg base "_law_after" 1 3 spLawAfter) (G__law_of : Cal P w K mg base "_law_of" 2 2 spOf) (G__law_possible : Cal P w K mg base "_law_possible" 1 2 spLawPoss) (G__law_pull : Cal P w K mg base "_law_pull" 1 2 spPull) : Cal P w K mg base "_law_steps" 3 4 spLawSteps := by
  refine dcal_ok T.d__law_steps sc_law_steps bi_law_steps (fun f Z cdv A outer s H E hr => (have hu := hu100 hr; have nd := sc_law_steps.nd; (dss_cons (ds_parVO (i := 4) (j := 5) rfl nd rfl rfl (by decide) rfl rfl (dv 2) (dn_lst da_nil) (by rfl))
    (dss_cons (ds_wp [0, 1, 2, 3, 4, 6, 7, 8, 9, 10] (ds_for rfl (di_wp [2, 3, 6, 7, 8, 9, 10] (di_rng1 (by rfl) T.z_range (da_cons (dcall G__law_pull (hr.mono (by decide)) (da_cons (dv 0) (da_cons (de_op op_add od_addI (dv 3) de_int) da_nil))) da_nil))) (dgn 6 nd) (dss_wp [2, 3, 6, 7, 8, 9, 10] (dss_cons (dset 7 nd (dcall G__law_possible (hr.mono (by decide)) (da_cons (dv 1) (da_cons (dv 4) da_nil))))
    (dss_cons (ds_setLc (i := 8) rfl nd rfl rfl (L2.sw_true rfl rfl rfl (by decide +kernel)) (own := [("_law_step", 9)]) (di_seq (dv 7)) (blkOk_by (N := ["_law_bag_here", "_law_rules_here", "_law_start", "_law_most", "_law_here", "_law_steps_here", "_law_turn", "_law_every", "_law_joins", "_law_step", "_law_some"]) (sc := defScope s_law_steps) (by decide +kernel)) (fun _ _ _ _ _ => (dgn 9 nd)) (fun _ _ _ _ _ => (dts_one (dt_cmp (oo_eq hu) od_eq (dix 9 hu de_int) de_str (nomark _)))) (fun _ _ _ _ _ => (dv 9)))
    (dss_cons (dset 10 nd (de_if (DW.dt (dw_and (dt_cmp (oo_ne hu) od_ne (dv 8) (de_lst da_nil) (nomark _)) (dw_and1 (DW.dt (dw_or (dt_cmp op_gt od_ib (de_callB co_len cd_len (by rfl) T.z_len (by decide +kernel) (da_cons (dv 4) da_nil)) de_int (nomark _)) (dw_or1 (dt_cmp (oo_eq hu) od_eq (dcall G__law_pull (hr.mono (by decide)) (da_cons (dv 0) (da_cons de_int da_nil))) de_int (nomark _)))))))) (dv 8) (dv 7)))
    (dss_cons (ds_if (DW.dt (dw_or (dt_cmp (oo_eq hu) od_eq (dv 10) (de_lst da_nil) (nomark _)) (dw_or1 (DW.dt (dw_and (dt_cmp op_gt od_ib (de_callB co_len cd_len (by rfl) T.z_len (by decide +kernel) (da_cons (dv 4) da_nil)) de_int (nomark _)) (dw_and1 (dt_cmp (oo_eq hu) od_eq (dv 8) (de_lst da_nil) (nomark _)))))))) (dss_one (ds_ret (dv 5))) dss_nil)
    (dss_cons (ds_mut 5 PySem.F.slot_list_append PySem.F.type_list_append mt_append mu_app (dcall G__law_of (hr.mono (by decide)) (da_cons (dv 0) (da_cons (dv 10) da_nil))))
    (dss_one (dset 4 nd (dcall G__law_after (hr.mono (by decide)) (da_cons (dv 1) (da_cons (dv 4) (da_cons (dix 5 hu (de_neg de_int)) da_nil))))))))))))))
    (dss_one (ds_ret (dv 5))))))) ?_
  rintro ds Q E ⟨b, r, s, n, rfl, ⟨g, g0⟩, hs, hl, n9, hq⟩
  refine ⟨by decide, ⟨by show 4 < 11; decide, by show 5 < 11; decide⟩, ?_⟩
  refine pull_go (n := n + 1) (by omega) (line_log (n := n + 1) (line6 (by omega))) fun k k0 k9 => ?_
  obtain ⟨k, rfl⟩ : ∃ m : Nat, k = (m : Int) := ⟨k.toNat, by omega⟩
  refine ⟨by omega, by omega, ?_⟩
  refine walk_range (n := k) (fun i ρ => ∃ ts : List Sp1, ts.length ≤ i ∧ okRun r s ts ∧ (∀ j, (runP r s (ts.take j)).length ≤ s.length + 30) ∧ ρ = [some (Lv.val (.bag b)), some (Lv.val (encR r)), none, none, some (Lv.val (encS (runP r s ts))), some (Lv.own (.lst (ts.map encP))), none, none, none, none, none]) ⟨[], by simp, trivial, fun j => by simp [runP], rfl⟩ ?_ ?_
  · rintro ρ ⟨ts, h1, h2, h3, rfl⟩
    exact hq ts (by omega) h2 h3
  · rintro i ρ K' hi hn' _ _ hrt ⟨ts, h1, h2, h3, rfl⟩
    obtain ⟨c1, c2⟩ := run_ok g hs.1 hs.2.1 h2
    have c3 := h3 ts.length
    rw [List.take_length] at c3
    generalize hh : runP r s ts = h at c1 c2 c3
    have hS : SeqOk r h := ⟨c1, c2, by omega⟩
    refine ⟨rfl, r, h, rfl, g, hS, by omega, ?_⟩
    have hall : ∀ t ∈ possP r h, okP r h t := fun t => possP_ok
    have hlen := poss_len (s := h) g
    generalize possP r h = ps at hall hlen
    refine ⟨line6 (by rw [List.length_map]; omega), ?_⟩
    refine lc_filter (e := encP) (c := encP) isCo (fun t => t) rfl (fun t ht Q N hY hN => ?_) ?_
    · cases t with
      | ex p =>
        refine ⟨trivial, 0, _, rfl, atI_nat (j := 0) rfl, ?_⟩
        refine eqT_go ?_
        refine ⟨_, rfl, iteN (by decide) ?_⟩
        exact hN rfl _ rfl
      | co p x =>
        refine ⟨trivial, 0, _, rfl, atI_nat (j := 0) rfl, ?_⟩
        refine eqT_go ?_
        refine ⟨_, rfl, iteY rfl ?_⟩
        exact hY rfl _ rfl
    have hJ : ∀ t ∈ ps.filter isCo, isCo t = true := fun t ht => (List.mem_filter.mp ht).2
    have hJ2 : ∀ t ∈ ps.filter isCo, okP r h t := fun t ht => hall t (List.mem_filter.mp ht).1
    have hJ3 : (ps.filter isCo).length ≤ ps.length := List.length_filter_le ..
    generalize ps.filter isCo = js at hJ hJ2 hJ3
    refine ⟨by decide, ?_⟩
    refine eqP_nil (fun t ht => okP_okX g (hJ2 t ht)) ?_
    have len24 : (h.map DV.str).length = h.length := len_encS h
    refine ⟨_, rfl, ite2 (fun hj => ?_) (fun hj => ?_)⟩
    · have hj : (!js.isEmpty) = true := hj
      have une : js ≠ [] := fun e => by rw [e] at hj; cases hj
      have hj' : js.isEmpty = false := by simpa using hj
      refine ⟨_, rfl, iteP (fun h24 => ?_) (fun h24 => ?_)⟩
      · refine ⟨by decide, ?_⟩
        refine eqP_nil (fun t ht => okP_okX g (hJ2 t ht)) ?_
        rw [hj']
        refine ⟨_, rfl, _, rfl, iteY h24 ?_⟩
        refine ⟨by decide, ?_⟩
        refine eqP_nil (fun t ht => okP_okX g (hJ2 t ht)) ?_
        rw [hj']
        refine ⟨_, rfl, ?_⟩
        have uok := hJ2
        have uco : h.length ≤ 24 ∨ ∀ t ∈ js, isCo t = true := .inr hJ
        refine ⟨⟨_, rfl⟩, ?_⟩
        refine of_lst (e := encP) une (by omega) fun t ht => ?_
        have ho := uok t ht
        obtain ⟨c4, c5, c6⟩ := aft_len g c2 ho
        have hl' : (aftP r h t).length ≤ s.length + 30 := by
          rcases uco with u | u
          · omega
          · have := con_len ho (u t ht); omega
        refine ⟨line6 (by rw [List.length_map]; omega), ?_⟩
        have en : (ts.map encP ++ [encP t]) ≠ [] := by simp
        refine ⟨trivial, _, _, rfl, atI_last en, ?_⟩
        rw [show (ts.map encP ++ [encP t]).getLast en = encP t from List.getLast_concat]
        refine ⟨rfl, r, h, t, rfl, g, hS, ho, ?_⟩
        refine hn' _ ⟨ts ++ [t], by simp; omega, okRun_app h2 ⟨by rw [hh]; exact ho, trivial⟩, fun j => ?_, ?_⟩
        · rcases take_app1 ts t j with e | e
          · rw [e]; exact h3 j
          · rw [e, runP_app, hh]; exact hl'
        · rw [runP_app, hh, List.map_append]; rfl
      · have h24' : h.length ≤ 24 := by omega
        refine pull_go (by decide) (by decide) fun m m0 m9 => ?_
        refine eqI_go ?_
        refine ⟨_, rfl, iteP (fun hm => ?_) (fun hm => ?_)⟩
        · refine ⟨by decide, ?_⟩
          refine eqP_nil (fun t ht => okP_okX g (hJ2 t ht)) ?_
          rw [hj']
          refine ⟨_, rfl, _, rfl, iteN h24 ?_⟩
          have uok := hJ2
          have uco : h.length ≤ 24 ∨ ∀ t ∈ js, isCo t = true := .inr hJ
          refine ⟨⟨_, rfl⟩, ?_⟩
          refine of_lst (e := encP) une (by omega) fun t ht => ?_
          have ho := uok t ht
          obtain ⟨c4, c5, c6⟩ := aft_len g c2 ho
          have hl' : (aftP r h t).length ≤ s.length + 30 := by
            rcases uco with u | u
            · omega
            · have := con_len ho (u t ht); omega
          refine ⟨line6 (by rw [List.length_map]; omega), ?_⟩
          have en : (ts.map encP ++ [encP t]) ≠ [] := by simp
          refine ⟨trivial, _, _, rfl, atI_last en, ?_⟩
          rw [show (ts.map encP ++ [encP t]).getLast en = encP t from List.getLast_concat]
          refine ⟨rfl, r, h, t, rfl, g, hS, ho, ?_⟩
          refine hn' _ ⟨ts ++ [t], by simp; omega, okRun_app h2 ⟨by rw [hh]; exact ho, trivial⟩, fun j => ?_, ?_⟩
          · rcases take_app1 ts t j with e | e
            · rw [e]; exact h3 j
            · rw [e, runP_app, hh]; exact hl'
          · rw [runP_app, hh, List.map_append]; rfl
        · refine ⟨by decide, ?_⟩
          refine eqP_nil (fun t ht => okP_okX g (hall t ht)) ?_
          refine ⟨_, rfl, ite2 (fun hp => ?_) (fun hp => ?_)⟩
          · exact hrt _ _ (hq ts (by omega) h2 h3)
          have hp : ¬ ps.isEmpty = true := hp
          have une : ps ≠ [] := fun e => hp (by rw [e]; rfl)
          refine ⟨_, rfl, iteN h24 ?_⟩
          have uok := hall
          have uco : h.length ≤ 24 ∨ ∀ t ∈ ps, isCo t = true := .inl h24'
          refine ⟨⟨_, rfl⟩, ?_⟩
          refine of_lst (e := encP) une (by omega) fun t ht => ?_
          have ho := uok t ht
          obtain ⟨c4, c5, c6⟩ := aft_len g c2 ho
          have hl' : (aftP r h t).length ≤ s.length + 30 := by
            rcases uco with u | u
            · omega
            · have := con_len ho (u t ht); omega
          refine ⟨line6 (by rw [List.length_map]; omega), ?_⟩
          have en : (ts.map encP ++ [encP t]) ≠ [] := by simp
          refine ⟨trivial, _, _, rfl, atI_last en, ?_⟩
          rw [show (ts.map encP ++ [encP t]).getLast en = encP t from List.getLast_concat]
          refine ⟨rfl, r, h, t, rfl, g, hS, ho, ?_⟩
          refine hn' _ ⟨ts ++ [t], by simp; omega, okRun_app h2 ⟨by rw [hh]; exact ho, trivial⟩, fun j => ?_, ?_⟩
          · rcases take_app1 ts t j with e | e
            · rw [e]; exact h3 j
            · rw [e, runP_app, hh]; exact hl'
          · rw [runP_app, hh, List.map_append]; rfl
    · have hj : ¬ (!js.isEmpty) = true := hj
      have hj' : js.isEmpty = true := by simpa using hj
      refine ⟨by decide, ?_⟩
      refine eqP_nil (fun t ht => okP_okX g (hall t ht)) ?_
      refine ⟨_, rfl, ite2 (fun hp => ?_) (fun hp => ?_)⟩
      · exact hrt _ _ (hq ts (by omega) h2 h3)
      have hp : ¬ ps.isEmpty = true := hp
      have une : ps ≠ [] := fun e => hp (by rw [e]; rfl)
      refine ⟨_, rfl, iteP (fun h24 => ?_) (fun h24 => ?_)⟩
      · refine ⟨by decide, ?_⟩
        refine eqP_nil (fun t ht => okP_okX g (hJ2 t ht)) ?_
        rw [hj']
        refine ⟨_, rfl, ?_⟩
        exact hrt _ _ (hq ts (by omega) h2 h3)
      · have uok := hall
        have uco : h.length ≤ 24 ∨ ∀ t ∈ ps, isCo t = true := .inl (by omega)
        refine ⟨⟨_, rfl⟩, ?_⟩
        refine of_lst (e := encP) une (by omega) fun t ht => ?_
        have ho := uok t ht
        obtain ⟨c4, c5, c6⟩ := aft_len g c2 ho
        have hl' : (aftP r h t).length ≤ s.length + 30 := by
          rcases uco with u | u
          · omega
          · have := con_len ho (u t ht); omega
        refine ⟨line6 (by rw [List.length_map]; omega), ?_⟩
        have en : (ts.map encP ++ [encP t]) ≠ [] := by simp
        refine ⟨trivial, _, _, rfl, atI_last en, ?_⟩
        rw [show (ts.map encP ++ [encP t]).getLast en = encP t from List.getLast_concat]
        refine ⟨rfl, r, h, t, rfl, g, hS, ho, ?_⟩
        refine hn' _ ⟨ts ++ [t], by simp; omega, okRun_app h2 ⟨by rw [hh]; exact ho, trivial⟩, fun j => ?_, ?_⟩
        · rcases take_app1 ts t j with e | e
          · rw [e]; exact h3 j
          · rw [e, runP_app, hh]; exact hl'
        · rw [runP_app, hh, List.map_append]; rfl

/-- _law_drawn -/
theorem ok_law_drawn (T : Txt P w K mg base C_Derivation C_Grammar C_InvalidName C_InvalidRule C_InvalidSequence C_InvalidStep C_LimitExceeded C_NoMatch C_OutOfRange C_TerminalSymbol C_UnknownSymbol C_DuplicateName C_UnknownUser C_MissingWeight C_RuleMismatch C_StepFailed C_StepInUse C_InvalidPath C_InvalidPoint C_Blocked C_InvalidFile C_SunderError C_NotFound) (G__law_rules : Cal P w K mg base "_law_rules" 4 1 spLawRules) (G__law_sequence : Cal P w K mg base "_law_sequence" 3 3 spLawSeq) (G__law_steps : Cal P w K mg base "_law_steps" 3 4 spLawSteps) : Cal P w K mg base "_law_drawn" 5 2 (spLawDrawn 4) := by
  refine dcal_ok T.d__law_drawn sc_law_drawn bi_law_drawn (fun f Z cdv A outer s H E hr => (have hu := hu100 hr; have nd := sc_law_drawn.nd; (dss_cutc (dset 2 nd (dcall G__law_rules (hr.mono (by decide)) (da_cons (dv 0) da_nil)))
    (dss_cutc (dset 3 nd (dcall G__law_sequence (hr.mono (by decide)) (da_cons (dv 0) (da_cons (dv 2) (da_cons de_int da_nil)))))
    (dss_one (ds_ret (de_tup (da_cons (dv 2) (da_cons (dv 3) (da_cons (dcall G__law_steps (hr.mono (by decide)) (da_cons (dv 0) (da_cons (dv 2) (da_cons (dv 3) (da_cons (dv 1) da_nil))))) da_nil)))))))))) ?_
  rintro ds Q E ⟨b, n, rfl, hn, hq⟩
  refine ⟨fun ρ => ∃ r, LawR r ∧ ρ = [some (Lv.val (.bag b)), some (Lv.val (.int (n : Nat))), some (Lv.val (encR r)), none], ⟨rfl, b, rfl, fun r hr => ⟨r, hr, rfl⟩⟩, ?_⟩
  rintro ρ ⟨r, hr, rfl⟩
  refine ⟨fun ρ => ∃ s : List Str, 1 ≤ s.length ∧ s.length ≤ 4 ∧ (∀ x ∈ s, x ∈ namesR r) ∧ ρ = [some (Lv.val (.bag b)), some (Lv.val (.int (n : Nat))), some (Lv.val (encR r)), some (Lv.val (encS s))], ⟨rfl, b, r, 4, rfl, hr, by omega, by omega, fun s s1 s4 sm => ⟨s, s1, s4, sm, rfl⟩⟩, ?_⟩
  rintro ρ ⟨s, s1, s4, sm, rfl⟩
  refine ⟨rfl, b, r, s, n, rfl, hr, ⟨fun e => by rw [e] at s1; exact absurd s1 (by decide), sm, by omega⟩, by omega, hn, fun ts tl tr tk => ?_⟩
  exact ⟨by show 3 ≤ sizeLine; decide, hq r s ts hr s1 s4 sm tl tr tk⟩

/-- _law_end -/
theorem ok_law_end (T : Txt P w K mg base C_Derivation C_Grammar C_InvalidName C_InvalidRule C_InvalidSequence C_InvalidStep C_LimitExceeded C_NoMatch C_OutOfRange C_TerminalSymbol C_UnknownSymbol C_DuplicateName C_UnknownUser C_MissingWeight C_RuleMismatch C_StepFailed C_StepInUse C_InvalidPath C_InvalidPoint C_Blocked C_InvalidFile C_SunderError C_NotFound) (G__law_after : Cal P w K mg base "_law_after" 1 3 spLawAfter) : Cal P w K mg base "_law_end" 2 3 spLawEnd := by
  refine dcal_ok T.d__law_end sc_law_end bi_law_end (fun f Z cdv A outer s H E hr => (have hu := hu100 hr; have nd := sc_law_end.nd; (dss_cons (dset 3 nd (dv 1))
    (dss_cons (ds_wp [0, 1, 2, 4] (ds_for rfl (di_wp [1, 2, 4] (di_seq (dv 2))) (dgn 4 nd) (dss_wp [1, 2, 4] (dss_one (dset 3 nd (dcall G__law_after (hr.mono (by decide)) (da_cons (dv 0) (da_cons (dv 3) (da_cons (dv 4) da_nil)))))))))
    (dss_one (ds_ret (dv 3))))))) ?_
  rintro ds Q E ⟨r, s, ts, rfl, g, hs, hl, ht, hq⟩
  refine walk_on (fun l ρ => ∃ h, GrOk r ∧ SeqOk r h ∧ h.length + 3 * l.length ≤ 900000 ∧ okRun r h l ∧ runP r h l = runP r s ts ∧ ρ = [some (Lv.val (encR r)), none, none, some (Lv.val (encS h)), none]) ⟨s, g, hs, hl, ht, rfl, rfl⟩ ?_ ?_
  · rintro ρ ⟨h, _, _, _, _, e, rfl⟩
    rw [← e] at hq
    exact hq
  · rintro t l ρ K' hn _ _ _ ⟨h, _, hh, hl, ⟨h1, h2⟩, e, rfl⟩
    obtain ⟨c1, c2, c3⟩ := aft_len g hh.2.1 h1
    simp only [List.length_cons] at hl
    refine ⟨rfl, r, h, t, rfl, g, hh, h1, ?_⟩
    exact hn _ ⟨aftP r h t, g, ⟨c2, c3, by omega⟩, by omega, h2, e, rfl⟩

/-- Derivation_end -/
theorem okDerivation_end (T : Txt P w K mg base C_Derivation C_Grammar C_InvalidName C_InvalidRule C_InvalidSequence C_InvalidStep C_LimitExceeded C_NoMatch C_OutOfRange C_TerminalSymbol C_UnknownSymbol C_DuplicateName C_UnknownUser C_MissingWeight C_RuleMismatch C_StepFailed C_StepInUse C_InvalidPath C_InvalidPoint C_Blocked C_InvalidFile C_SunderError C_NotFound) : Mg CX0 P w K mg base C_Derivation "end" 1 1 (spDvEnd C_Derivation C_Grammar) := by
  refine dmet_ok T.cl_Derivation T.d_Derivation_end scDerivation_end biDerivation_end (fun f Z cdv A outer s H E hr => (have hu := hu100 hr; have nd := scDerivation_end.nd; (dss_one (ds_ret (de_ix (oo_ix hu) od_ix (de_fld T.cl_Derivation T.nf_Derivation_states (dv 0)) (de_neg de_int)))))) ?_
  rintro ds Q E ⟨r, s, ts, rfl, hq⟩
  have lastE : atI ((rowsP r s ts).map encS) (-1) = some (encS (runP r s ts)) := by
    rw [atI_last (by simpa using rowsP_ne), List.getLast_map, rowsP_last]
  exact ⟨_, _, _, rfl, rfl, -1, _, rfl, lastE, hq⟩

/-- Derivation_grammar -/
theorem okDerivation_grammar (T : Txt P w K mg base C_Derivation C_Grammar C_InvalidName C_InvalidRule C_InvalidSequence C_InvalidStep C_LimitExceeded C_NoMatch C_OutOfRange C_TerminalSymbol C_UnknownSymbol C_DuplicateName C_UnknownUser C_MissingWeight C_RuleMismatch C_StepFailed C_StepInUse C_InvalidPath C_InvalidPoint C_Blocked C_InvalidFile C_SunderError C_NotFound) : Mg CX0 P w K mg base C_Derivation "grammar" 1 1 (spDvGr C_Derivation C_Grammar) := by
  refine dmet_ok T.cl_Derivation T.d_Derivation_grammar scDerivation_grammar biDerivation_grammar (fun f Z cdv A outer s H E hr => (have hu := hu100 hr; have nd := scDerivation_grammar.nd; (dss_one (ds_ret (de_fld T.cl_Derivation T.nf_Derivation_base (dv 0)))))) ?_
  rintro ds Q E ⟨r, s, ts, rfl, hq⟩
  exact ⟨_, _, _, rfl, rfl, hq⟩

/-- Derivation_len -/
theorem okDerivation_len (T : Txt P w K mg base C_Derivation C_Grammar C_InvalidName C_InvalidRule C_InvalidSequence C_InvalidStep C_LimitExceeded C_NoMatch C_OutOfRange C_TerminalSymbol C_UnknownSymbol C_DuplicateName C_UnknownUser C_MissingWeight C_RuleMismatch C_StepFailed C_StepInUse C_InvalidPath C_InvalidPoint C_Blocked C_InvalidFile C_SunderError C_NotFound) : Mg CX0 P w K mg base C_Derivation "__len__" 1 1 (spDvLen C_Derivation C_Grammar) := by
  refine dmet_ok T.cl_Derivation T.d_Derivation_len scDerivation_len biDerivation_len (fun f Z cdv A outer s H E hr => (have hu := hu100 hr; have nd := scDerivation_len.nd; (dss_one (ds_ret (de_callB co_len cd_len (by rfl) T.z_len (by decide +kernel) (da_cons (de_fld T.cl_Derivation T.nf_Derivation_actions (dv 0)) da_nil)))))) ?_
  rintro ds Q E ⟨r, s, ts, rfl, hq⟩
  have e1 : (ts.map encP).length = ts.length := List.length_map ..
  refine ⟨_, _, _, rfl, rfl, ?_⟩
  rw [← e1] at hq
  exact hq

/-- Derivation_repr -/
theorem okDerivation_repr (T : Txt P w K mg base C_Derivation C_Grammar C_InvalidName C_InvalidRule C_InvalidSequence C_InvalidStep C_LimitExceeded C_NoMatch C_OutOfRange C_TerminalSymbol C_UnknownSymbol C_DuplicateName C_UnknownUser C_MissingWeight C_RuleMismatch C_StepFailed C_StepInUse C_InvalidPath C_InvalidPoint C_Blocked C_InvalidFile C_SunderError C_NotFound) : Mg CX0 P w K mg base C_Derivation "__repr__" 1 1 (spDvRepr C_Derivation C_Grammar) := by
  refine dmet_ok T.cl_Derivation T.d_Derivation_repr scDerivation_repr biDerivation_repr (fun f Z cdv A outer s H E hr => (have hu := hu100 hr; have nd := scDerivation_repr.nd; (dss_one (ds_ret (de_joined (dj_cons de_str (dj_cons (de_fmt (de_callB co_len cd_len (by rfl) T.z_len (by decide +kernel) (da_cons (de_fld T.cl_Derivation T.nf_Derivation_actions (dv 0)) da_nil))) (dj_cons de_str (dj_cons (de_fmt (de_callB co_len cd_len (by rfl) T.z_len (by decide +kernel) (da_cons (de_ix (oo_ix hu) od_ix (de_fld T.cl_Derivation T.nf_Derivation_states (dv 0)) de_int) da_nil))) (dj_cons de_str (dj_cons (de_fmt (de_callB co_len cd_len (by rfl) T.z_len (by decide +kernel) (da_cons (de_ix (oo_ix hu) od_ix (de_fld T.cl_Derivation T.nf_Derivation_states (dv 0)) (de_neg de_int)) da_nil))) (dj_cons de_str dj_nil)))))))))))) ?_
  rintro ds Q E ⟨r, s, ts, rfl, h1, h2, h3, hq⟩
  have lastE : atI ((rowsP r s ts).map encS) (-1) = some (encS (runP r s ts)) := by
    rw [atI_last (by simpa using rowsP_ne), List.getLast_map, rowsP_last]
  have h0 : atI ((rowsP r s ts).map encS) 0 = some (encS s) := atI_nat (j := 0) (by rw [List.getElem?_map, rowsP_get (Nat.zero_le _)]; rfl)
  have e1 : (ts.map encP).length = ts.length := List.length_map ..
  have e2 := len_encS s
  have e3 := len_encS (runP r s ts)
  obtain ⟨x1, x2, x3, x4⟩ := reprD_parts
  unfold reprD at hq
  rw [← e1, ← e2, ← e3] at hq
  rw [← e1] at h2
  rw [← e2] at h1
  rw [← e3] at h3
  have n1 := nlen (n := (ts.map encP).length) (by omega)
  have n2 := nlen h1
  have n3 := nlen h3
  refine ⟨_, rfl, by rw [empty_app, x1]; exact line6 (by decide), ?_⟩
  rw [empty_app]
  refine ⟨_, _, _, rfl, rfl, nlog (by omega), _, rfl, line6 (by rw [app_len, x1]; show 11 + (numS (ts.map encP).length).length ≤ _; omega), ?_⟩
  refine ⟨_, rfl, line6 (by rw [app_len, app_len, x1, x2]; show 11 + (numS (ts.map encP).length).length + 8 ≤ _; omega), ?_⟩
  refine ⟨_, _, _, rfl, rfl, 0, _, rfl, h0, nlog h1, _, rfl, line6 (by rw [app_len, app_len, app_len, x1, x2]; show 11 + (numS (ts.map encP).length).length + 8 + (numS (s.map DV.str).length).length ≤ _; omega), ?_⟩
  refine ⟨_, rfl, line6 (by rw [app_len, app_len, app_len, app_len, x1, x2, x3]; show 11 + (numS (ts.map encP).length).length + 8 + (numS (s.map DV.str).length).length + 4 ≤ _; omega), ?_⟩
  refine ⟨_, _, _, rfl, rfl, -1, _, rfl, lastE, nlog h3, _, rfl, line6 (by rw [app_len, app_len, app_len, app_len, app_len, x1, x2, x3]; show 11 + (numS (ts.map encP).length).length + 8 + (numS (s.map DV.str).length).length + 4 + (numS ((runP r s ts).map DV.str).length).length ≤ _; omega), ?_⟩
  refine ⟨_, rfl, line6 (by rw [app_len, app_len, app_len, app_len, app_len, app_len, x1, x2, x3, x4]; show 11 + (numS (ts.map encP).length).length + 8 + (numS (s.map DV.str).length).length + 4 + (numS ((runP r s ts).map DV.str).length).length + 9 ≤ _; omega), ?_⟩
  exact hq

/-- Derivation_sequences -/
theorem okDerivation_sequences (T : Txt P w K mg base C_Derivation C_Grammar C_InvalidName C_InvalidRule C_InvalidSequence C_InvalidStep C_LimitExceeded C_NoMatch C_OutOfRange C_TerminalSymbol C_UnknownSymbol C_DuplicateName C_UnknownUser C_MissingWeight C_RuleMismatch C_StepFailed C_StepInUse C_InvalidPath C_InvalidPoint C_Blocked C_InvalidFile C_SunderError C_NotFound) : Mg CX0 P w K mg base C_Derivation "sequences" 1 1 (spDvRows C_Derivation C_Grammar) := by
  refine dmet_ok T.cl_Derivation T.d_Derivation_sequences scDerivation_sequences biDerivation_sequences (fun f Z cdv A outer s H E hr => (have hu := hu100 hr; have nd := scDerivation_sequences.nd; (dss_one (ds_ret (de_callTy (co_list rfl) cd_list (by rfl) T.z_list (by decide +kernel) (da_cons (de_fld T.cl_Derivation T.nf_Derivation_states (dv 0)) da_nil)))))) ?_
  rintro ds Q E ⟨r, s, ts, rfl, hq⟩
  exact ⟨_, _, _, rfl, rfl, hq⟩

/-- Derivation_start -/
theorem okDerivation_start (T : Txt P w K mg base C_Derivation C_Grammar C_InvalidName C_InvalidRule C_InvalidSequence C_InvalidStep C_LimitExceeded C_NoMatch C_OutOfRange C_TerminalSymbol C_UnknownSymbol C_DuplicateName C_UnknownUser C_MissingWeight C_RuleMismatch C_StepFailed C_StepInUse C_InvalidPath C_InvalidPoint C_Blocked C_InvalidFile C_SunderError C_NotFound) : Mg CX0 P w K mg base C_Derivation "start" 1 1 (spDvStart C_Derivation C_Grammar) := by
  refine dmet_ok T.cl_Derivation T.d_Derivation_start scDerivation_start biDerivation_start (fun f Z cdv A outer s H E hr => (have hu := hu100 hr; have nd := scDerivation_start.nd; (dss_one (ds_ret (de_ix (oo_ix hu) od_ix (de_fld T.cl_Derivation T.nf_Derivation_states (dv 0)) de_int))))) ?_
  rintro ds Q E ⟨r, s, ts, rfl, hq⟩
  have h0 : ((rowsP r s ts).map encS)[0]? = some (encS s) := by rw [List.getElem?_map, rowsP_get (Nat.zero_le _)]; rfl
  exact ⟨_, _, _, rfl, rfl, 0, _, rfl, atI_nat (j := 0) h0, hq⟩

/-- Derivation_steps -/
theorem okDerivation_steps (T : Txt P w K mg base C_Derivation C_Grammar C_InvalidName C_InvalidRule C_InvalidSequence C_InvalidStep C_LimitExceeded C_NoMatch C_OutOfRange C_TerminalSymbol C_UnknownSymbol C_DuplicateName C_UnknownUser C_MissingWeight C_RuleMismatch C_StepFailed C_StepInUse C_InvalidPath C_InvalidPoint C_Blocked C_InvalidFile C_SunderError C_NotFound) : Mg CX0 P w K mg base C_Derivation "steps" 1 1 (spDvSteps C_Derivation C_Grammar) := by
  refine dmet_ok T.cl_Derivation T.d_Derivation_steps scDerivation_steps biDerivation_steps (fun f Z cdv A outer s H E hr => (have hu := hu100 hr; have nd := scDerivation_steps.nd; (dss_one (ds_ret (de_callTy (co_list rfl) cd_list (by rfl) T.z_list (by decide +kernel) (da_cons (de_fld T.cl_Derivation T.nf_Derivation_actions (dv 0)) da_nil)))))) ?_
  rintro ds Q E ⟨r, s, ts, rfl, hq⟩
  exact ⟨_, _, _, rfl, rfl, hq⟩

/-- sequence_text -/
theorem oksequence_text (T : Txt P w K mg base C_Derivation C_Grammar C_InvalidName C_InvalidRule C_InvalidSequence C_InvalidStep C_LimitExceeded C_NoMatch C_OutOfRange C_TerminalSymbol C_UnknownSymbol C_DuplicateName C_UnknownUser C_MissingWeight C_RuleMismatch C_StepFailed C_StepInUse C_InvalidPath C_InvalidPoint C_Blocked C_InvalidFile C_SunderError C_NotFound) : Cal P w K mg base "sequence_text" 1 1 spSeqText := by
  refine dcal_ok T.d_sequence_text scsequence_text bisequence_text (fun f Z cdv A outer s H E hr => (have hu := hu100 hr; have nd := scsequence_text.nd; (dss_one (ds_ret (de_ms PySem.F.slot_str_join PySem.F.type_str_join mt_join md_join de_str (da_cons (dv 0) da_nil)))))) ?_
  rintro ds Q E ⟨s, rfl, hl, hq⟩
  refine ⟨⟨_, rfl⟩, _, s, rfl, .inr rfl, ?_, hq⟩
  have e : (" " : Str).length = 1 := by decide +kernel
  rw [e]; omega

/-- step_text -/
theorem okstep_text (T : Txt P w K mg base C_Derivation C_Grammar C_InvalidName C_InvalidRule C_InvalidSequence C_InvalidStep C_LimitExceeded C_NoMatch C_OutOfRange C_TerminalSymbol C_UnknownSymbol C_DuplicateName C_UnknownUser C_MissingWeight C_RuleMismatch C_StepFailed C_StepInUse C_InvalidPath C_InvalidPoint C_Blocked C_InvalidFile C_SunderError C_NotFound) (G_check_step : CalX P w K mg base "check_step" 3 1 (spCheckStep C_InvalidStep)) : CalX P w K mg base "step_text" 4 1 (spStepText C_InvalidStep) := by
  refine dcal_okX T.d_step_text scstep_text bistep_text (fun f F0 H0 W w' lk cdv A outer s H E hr tk => (have hu := hu100 hr; have nd := scstep_text.nd; (dss_cons (ds_expr (dcallG (CalX.g G_check_step) (hr.mono (by decide)) (goX tk) (da_cons (dv 0) da_nil)))
    (dss_one (ds_ret (de_ms PySem.F.slot_str_join PySem.F.type_str_join mt_join md_join de_str (da_cons (de_op oo_add od_add (de_lst (da_cons (dix 0 hu de_int) (da_cons (de_callTy call_str_int cd_stri (by rfl) T.z_str (by decide +kernel) (da_cons (dix 0 hu de_int) da_nil)) da_nil))) (de_callTy (co_list rfl) cd_list (by rfl) T.z_list (by decide +kernel) (da_cons (de_slice oo_sl od_sl (dv 0) (do_some de_int) do_none) da_nil))) da_nil))))))) ?_
  rintro ds Q E (⟨t, rfl, hs, hq⟩ | ⟨xs, rfl, hx, hb, he⟩)
  · have l20 : ∀ p : Nat, p < 10000 → ((p : Int)).natAbs.log2 < 1920 := fun p h => Nat.lt_of_lt_of_le (log_of (n := 20) (by rw [Int.natAbs_natCast]; omega) (by decide)) (by decide)
    have e0 : (" " : Str).length = 1 := by decide +kernel
    have e1 : ("expand" : Str).length = 6 := by decide +kernel
    have e2 : ("contract" : Str).length = 8 := by decide +kernel
    cases t with
    | ex p =>
      have hp : p < 10000 := hs
      have hl := TL.numL_len (n := p) (k := 4) (by decide) (by omega)
      refine ⟨rfl, _, rfl, .inr ⟨_, _, rfl⟩, ?_⟩
      rw [if_pos (show stepB [.str "expand", .int p] = true from by simp [stepB])]
      refine ⟨⟨_, rfl⟩, trivial, 0, _, rfl, atI_nat (j := 0) rfl, trivial, 1, _, rfl, atI_nat (j := 1) rfl, l20 p hp, by show 2 ≤ sizeLine; decide, ?_⟩
      refine ⟨2, rfl, ?_⟩
      refine slU_go ?_
      show fAdd _ _ _
      refine addL_go (by show 2 + 0 ≤ 1000000; decide) ?_
      refine ⟨_, ["expand", numS p], rfl, .inl rfl, ?_, hq⟩
      simp only [List.map_cons, List.map_nil, List.sum_cons, List.sum_nil, List.length_cons, List.length_nil, e0, e1, numS_len]
      omega
    | co p x =>
      have hp : p < 10000 := hs.1
      have hx : x.length ≤ 1000 := hs.2
      have hl := TL.numL_len (n := p) (k := 4) (by decide) (by omega)
      refine ⟨rfl, _, rfl, .inr ⟨_, _, rfl⟩, ?_⟩
      rw [if_pos (show stepB [.str "contract", .int p, .str x] = true from by simp [stepB])]
      refine ⟨⟨_, rfl⟩, trivial, 0, _, rfl, atI_nat (j := 0) rfl, trivial, 1, _, rfl, atI_nat (j := 1) rfl, l20 p hp, by show 2 ≤ sizeLine; decide, ?_⟩
      refine ⟨2, rfl, ?_⟩
      refine slU_go ?_
      show fAdd _ _ _
      refine addL_go (by show 2 + 1 ≤ 1000000; decide) ?_
      refine ⟨_, ["contract", numS p, x], rfl, .inl rfl, ?_, hq⟩
      simp only [List.map_cons, List.map_nil, List.sum_cons, List.sum_nil, List.length_cons, List.length_nil, e0, e2, numS_len]
      omega
  · refine ⟨rfl, xs, rfl, hx, ?_⟩
    rw [if_neg (by rw [hb]; decide)]
    exact he

/-- Derivation_str -/
theorem okDerivation_str (T : Txt P w K mg base C_Derivation C_Grammar C_InvalidName C_InvalidRule C_InvalidSequence C_InvalidStep C_LimitExceeded C_NoMatch C_OutOfRange C_TerminalSymbol C_UnknownSymbol C_DuplicateName C_UnknownUser C_MissingWeight C_RuleMismatch C_StepFailed C_StepInUse C_InvalidPath C_InvalidPoint C_Blocked C_InvalidFile C_SunderError C_NotFound) (G_sequence_text : Cal P w K mg base "sequence_text" 1 1 spSeqText) (G_step_text : CalX P w K mg base "step_text" 4 1 (spStepText C_InvalidStep)) : Mg CX0 P w K mg base C_Derivation "__str__" 5 1 (spDvStr C_Derivation C_Grammar) := by
  refine dmet_ok T.cl_Derivation T.d_Derivation_str scDerivation_str biDerivation_str (fun f Z cdv A outer s H E hr => (have hu := hu100 hr; have nd := scDerivation_str.nd; (dss_cutc (ds_setLc (i := 1) rfl nd rfl rfl (L2.sw_true rfl rfl rfl (by decide +kernel)) (own := [("step", 2)]) (di_seq (de_fld T.cl_Derivation T.nf_Derivation_actions (dv 0))) (blkOk_by (N := ["self", "steps", "step"]) (sc := defScope sDerivation_str) (by decide +kernel)) (fun _ _ _ _ _ => (dgn 2 nd)) (fun _ _ _ _ _ => dts_nil) (fun _ _ _ _ _ => (dcallG (CalX.g G_step_text) (hr.mono (by decide)) goN (da_cons (dv 2) da_nil))))
    (dss_one (ds_ret (de_ms PySem.F.slot_str_join PySem.F.type_str_join mt_join md_join de_str (da_cons (de_op oo_add od_add (de_lst (da_cons (dcall G_sequence_text (hr.mono (by decide)) (da_cons (de_ix (oo_ix hu) od_ix (de_fld T.cl_Derivation T.nf_Derivation_states (dv 0)) de_int) da_nil)) da_nil)) (de_if (dt_cmp (oo_ne hu) od_ne (dv 1) (de_lst da_nil) (nomark _)) (de_lst (da_cons (de_ms PySem.F.slot_str_join PySem.F.type_str_join mt_join md_join de_str (da_cons (dv 1) da_nil)) da_nil)) (de_lst da_nil))) da_nil))))))) ?_
  rintro ds Q E ⟨r, s, ts, rfl, h1, h2, h3, hq⟩
  have h0 : atI ((rowsP r s ts).map encS) 0 = some (encS s) := atI_nat (j := 0) (by rw [List.getElem?_map, rowsP_get (Nat.zero_le _)]; rfl)
  have e1 : (ts.map encP).length = ts.length := List.length_map ..
  have s1 := stepsT_sum h3
  have s2 := stepsT_len h3
  have s3 := textS_len s
  unfold strD at hq
  refine ⟨fun ρ => ρ = [some (Lv.val (dvD C_Derivation C_Grammar r s ts)), some (Lv.val (.lst ((ts.map fun t => textS (stepT t)).map DV.str))), none], ?_, ?_⟩
  · refine ⟨_, _, _, rfl, rfl, by rw [e1]; exact line6 (by omega), ?_⟩
    refine lc_map (e := encP) (c := DV.str) (fun t => textS (stepT t)) rfl (fun t ht Q' hQ => ?_) ?_
    · exact ⟨rfl, .inl ⟨t, rfl, (h3 t ht).small, hQ _ rfl⟩⟩
    rw [List.map_map]
    rfl
  rintro ρ rfl
  refine ⟨⟨_, rfl⟩, _, _, _, rfl, rfl, 0, _, rfl, h0, rfl, s, rfl, by omega, by show 1 ≤ sizeLine; decide, by show 0 ≤ sizeLine; decide, ?_⟩
  refine eqLnil_go (okDs_map fun x hx => ?_) (Nat.le_trans (depDs_map (n := 0) fun _ _ => by simp [depD]) (by decide)) ?_
  · obtain ⟨z, hz, rfl⟩ := List.mem_map.mp hx
    simp [okD, strOk_textS (okS_stepT (h3 z hz))]
  refine ⟨_, rfl, ?_⟩
  cases ts with
  | nil =>
    refine ⟨by show 0 ≤ sizeLine; decide, addL_go (by show 1 + 0 ≤ 1000000; decide) ?_⟩
    refine ⟨_, [textS s], rfl, .inl rfl, by simp only [List.map_cons, List.map_nil, List.sum_cons, List.sum_nil, List.length_cons, List.length_nil, sp3b.2.2.2]; omega, ?_⟩
    rw [join1]
    exact hq
  | cons t ts =>
    rw [if_neg (by simp)] at hq
    refine ⟨⟨_, rfl⟩, _, (t :: ts).map fun t => textS (stepT t), rfl, .inl rfl, by rw [List.length_map, sp3b.2.2.1]; omega, by show 1 ≤ sizeLine; decide, addL_go (by show 1 + 1 ≤ 1000000; decide) ?_⟩
    refine ⟨_, [textS s, Txt.join " , " ((t :: ts).map fun t => textS (stepT t))], rfl, .inl rfl, by simp only [List.map_cons, List.map_nil, List.sum_cons, List.sum_nil, List.length_cons, List.length_nil, sp3b.2.2.2]; simp only [List.map_cons, List.length_cons] at s2 h2 ⊢; omega, ?_⟩
    rw [join2]
    exact hq

/-- Grammar_eq -/
theorem okGrammar_eq (T : Txt P w K mg base C_Derivation C_Grammar C_InvalidName C_InvalidRule C_InvalidSequence C_InvalidStep C_LimitExceeded C_NoMatch C_OutOfRange C_TerminalSymbol C_UnknownSymbol C_DuplicateName C_UnknownUser C_MissingWeight C_RuleMismatch C_StepFailed C_StepInUse C_InvalidPath C_InvalidPoint C_Blocked C_InvalidFile C_SunderError C_NotFound) : Mg CX0 P w K mg base C_Grammar "__eq__" 1 2 (spGrEq C_Grammar) := by
  refine dmet_ok T.cl_Grammar T.d_Grammar_eq scGrammar_eq biGrammar_eq (fun f Z cdv A outer s H E hr => (have hu := hu100 hr; have nd := scGrammar_eq.nd; (dss_one (ds_ret (de_and (de_isiO T.io_Grammar (by rfl) T.z_isinstance (by decide +kernel) (da_cons (dv 1) (da_cons (de_clsN (by rfl) T.m_Grammar) da_nil))) (de_one (de_cmp (op_eqK hu) od_eqK (de_fld T.cl_Grammar T.nf_Grammar_table (dv 0)) (de_fld T.cl_Grammar T.nf_Grammar_table (dv 1)) (nomark _)))))))) ?_
  rintro ds Q E ⟨r, r', rfl, h, h', hq⟩
  refine ⟨⟨_, _, rfl⟩, rfl, ⟨_, _, _, rfl, rfl, _, _, _, rfl, rfl, ?_⟩⟩
  refine eqR_go h h' ?_
  rw [Bool.false_xor]
  exact hq

/-- _law_same -/
theorem ok_law_same (T : Txt P w K mg base C_Derivation C_Grammar C_InvalidName C_InvalidRule C_InvalidSequence C_InvalidStep C_LimitExceeded C_NoMatch C_OutOfRange C_TerminalSymbol C_UnknownSymbol C_DuplicateName C_UnknownUser C_MissingWeight C_RuleMismatch C_StepFailed C_StepInUse C_InvalidPath C_InvalidPoint C_Blocked C_InvalidFile C_SunderError C_NotFound) : ∀ d : Nat, Cal P w K mg base "_law_same" (1 + d) 2 (spSame d)
  | 0 => cal_none T.d__law_same bi_law_same
  | d + 1 => by
    have G__law_same := ok_law_same T d
    refine dcal_ok T.d__law_same sc_law_same bi_law_same (fun f Z cdv A outer s H E hr => (have hu := hu100 hr; have nd := sc_law_same.nd; (dss_cons (ds_if (dt_cmp op_isN od_is (dv 1) de_non (nomark _)) (dss_one (ds_ret (de_cmp op_isN od_is (dv 0) de_non (nomark _)))) dss_nil)
    (dss_cons (ds_if (DW.dt (dw_or (dt_tru (de_callB call_isi cd_isi (by rfl) T.z_isinstance (by decide +kernel) (da_cons (dv 1) (da_cons (de_ty (n := "bool") (by rfl) T.z_bool (by decide +kernel)) da_nil)))) (dw_or1 (dt_tru (de_callB call_isi cd_isi (by rfl) T.z_isinstance (by decide +kernel) (da_cons (dv 0) (da_cons (de_ty (n := "bool") (by rfl) T.z_bool (by decide +kernel)) da_nil))))))) (dss_one (ds_ret (de_and (de_callB call_isi cd_isi (by rfl) T.z_isinstance (by decide +kernel) (da_cons (dv 1) (da_cons (de_ty (n := "bool") (by rfl) T.z_bool (by decide +kernel)) da_nil))) (de_and (de_callB call_isi cd_isi (by rfl) T.z_isinstance (by decide +kernel) (da_cons (dv 0) (da_cons (de_ty (n := "bool") (by rfl) T.z_bool (by decide +kernel)) da_nil))) (de_one (de_cmp (oo_eq hu) od_eq (dv 0) (dv 1) (nomark _))))))) dss_nil)
    (dss_cons (ds_if (DW.dt (dw_or (dt_tru (de_callB call_isi cd_isi (by rfl) T.z_isinstance (by decide +kernel) (da_cons (dv 1) (da_cons (de_ty (n := "int") (by rfl) T.z_int (by decide +kernel)) da_nil)))) (dw_or1 (dt_tru (de_callB call_isi cd_isi (by rfl) T.z_isinstance (by decide +kernel) (da_cons (dv 1) (da_cons (de_ty (n := "str") (by rfl) T.z_str (by decide +kernel)) da_nil))))))) (dss_cons (ds_if (DW.dt (dw_or (dt_cmp (oo_ne hu) od_ne (de_callB call_isi cd_isi (by rfl) T.z_isinstance (by decide +kernel) (da_cons (dv 0) (da_cons (de_ty (n := "int") (by rfl) T.z_int (by decide +kernel)) da_nil))) (de_callB call_isi cd_isi (by rfl) T.z_isinstance (by decide +kernel) (da_cons (dv 1) (da_cons (de_ty (n := "int") (by rfl) T.z_int (by decide +kernel)) da_nil))) (nomark _)) (dw_or1 (dt_cmp (oo_ne hu) od_ne (de_callB call_isi cd_isi (by rfl) T.z_isinstance (by decide +kernel) (da_cons (dv 0) (da_cons (de_ty (n := "str") (by rfl) T.z_str (by decide +kernel)) da_nil))) (de_callB call_isi cd_isi (by rfl) T.z_isinstance (by decide +kernel) (da_cons (dv 1) (da_cons (de_ty (n := "str") (by rfl) T.z_str (by decide +kernel)) da_nil))) (nomark _))))) (dss_one (ds_ret de_bl)) dss_nil)
    (dss_one (ds_ret (de_cmp (oo_eq hu) od_eq (dv 0) (dv 1) (nomark _))))) dss_nil)
    (dss_cons (ds_if (dt_tru (de_callB call_isi cd_isi (by rfl) T.z_isinstance (by decide +kernel) (da_cons (dv 1) (da_cons (de_ty (n := "dict") (by rfl) T.z_dict (by decide +kernel)) da_nil)))) (dss_cons (ds_if (DW.dt (dw_or (dt_not (dt_tru (de_callB call_isi cd_isi (by rfl) T.z_isinstance (by decide +kernel) (da_cons (dv 0) (da_cons (de_ty (n := "dict") (by rfl) T.z_dict (by decide +kernel)) da_nil))))) (dw_or1 (dt_cmp (oo_ne hu) od_ne (de_callB (co_sort rfl) cd_sort (by rfl) T.z_sorted (by decide +kernel) (da_cons (de_callTy (co_list rfl) cd_list (by rfl) T.z_list (by decide +kernel) (da_cons (dv 0) da_nil)) da_nil)) (de_callB (co_sort rfl) cd_sort (by rfl) T.z_sorted (by decide +kernel) (da_cons (de_callTy (co_list rfl) cd_list (by rfl) T.z_list (by decide +kernel) (da_cons (dv 1) da_nil)) da_nil)) (nomark _))))) (dss_one (ds_ret de_bl)) dss_nil)
    (dss_one (ds_ret (de_callB (cr_all rfl) cd_all (by rfl) T.z_all (by decide +kernel) (da_cons (de_lc (own := [("_law_key", 2)]) rfl nd (di_seq (dv 1)) (blkOk_by (N := ["_law_found", "_law_due", "_law_key", "_law_k"]) (sc := defScope s_law_same) (by decide +kernel)) (fun _ _ _ _ _ => (dgn 2 nd)) (fun _ _ _ _ _ => dts_nil) (fun _ _ _ _ _ => (dcall G__law_same (hr.mono (Nat.le_refl _)) (da_cons (dix 0 hu (dv 2)) (da_cons (dix 1 hu (dv 2)) da_nil))))) da_nil))))) dss_nil)
    (dss_cons (ds_if (DW.dt (dw_or (dt_cmp (oo_ne hu) od_ne (de_callB call_isi cd_isi (by rfl) T.z_isinstance (by decide +kernel) (da_cons (dv 1) (da_cons (de_ty (n := "tuple") (by rfl) T.z_tuple (by decide +kernel)) da_nil))) (de_callB call_isi cd_isi (by rfl) T.z_isinstance (by decide +kernel) (da_cons (dv 0) (da_cons (de_ty (n := "tuple") (by rfl) T.z_tuple (by decide +kernel)) da_nil))) (nomark _)) (dw_or1 (dt_cmp (oo_ne hu) od_ne (de_callB call_isi cd_isi (by rfl) T.z_isinstance (by decide +kernel) (da_cons (dv 1) (da_cons (de_ty (n := "list") (by rfl) T.z_list (by decide +kernel)) da_nil))) (de_callB call_isi cd_isi (by rfl) T.z_isinstance (by decide +kernel) (da_cons (dv 0) (da_cons (de_ty (n := "list") (by rfl) T.z_list (by decide +kernel)) da_nil))) (nomark _))))) (dss_one (ds_ret de_bl)) dss_nil)
    (dss_one (ds_ret (de_and (de_cmp (oo_eq hu) od_eq (de_callB co_len cd_len (by rfl) T.z_len (by decide +kernel) (da_cons (dv 0) da_nil)) (de_callB co_len cd_len (by rfl) T.z_len (by decide +kernel) (da_cons (dv 1) da_nil)) (nomark _)) (de_one (de_callB (cr_all rfl) cd_all (by rfl) T.z_all (by decide +kernel) (da_cons (de_lc (own := [("_law_k", 3)]) rfl nd (di_rng1 (by rfl) T.z_range (da_cons (de_callB co_len cd_len (by rfl) T.z_len (by decide +kernel) (da_cons (dv 1) da_nil)) da_nil)) (blkOk_by (N := ["_law_found", "_law_due", "_law_key", "_law_k"]) (sc := defScope s_law_same) (by decide +kernel)) (fun _ _ _ _ _ => (dgn 3 nd)) (fun _ _ _ _ _ => dts_nil) (fun _ _ _ _ _ => (dcall G__law_same (hr.mono (Nat.le_refl _)) (da_cons (dix 0 hu (dv 3)) (da_cons (dix 1 hu (dv 3)) da_nil))))) da_nil))))))))))))) ?_
    rintro ds Q E ⟨x, rfl, hx, hq⟩
    cases x with
    | non => exact ⟨_, rfl, hq⟩
    | bl b =>
      refine ⟨_, rfl, true, isi_bool.2.2.2.2.2.1 b, true, isi_bool.2.2.2.2.2.1 b, true, isi_bool.2.2.2.2.2.1 b, eqB_go ?_⟩
      rw [decide_eq_true rfl]
      exact hq
    | int b =>
      refine ⟨_, rfl, false, isi_bool.1 b, false, isi_bool.1 b, true, isi_int.1 b, ?_⟩
      refine ⟨true, isi_int.1 b, true, isi_int.1 b, eqB_go ⟨_, rfl, false, isi_str.1 b, false, isi_str.1 b, eqB_go ⟨_, rfl, eqI_go ?_⟩⟩⟩
      rw [decide_eq_true rfl]
      exact hq
    | str b =>
      refine ⟨_, rfl, false, isi_bool.2.1 b, false, isi_bool.2.1 b, false, isi_int.2.1 b, true, isi_str.2.1 b, ?_⟩
      refine ⟨false, isi_int.2.1 b, false, isi_int.2.1 b, eqB_go ⟨_, rfl, true, isi_str.2.1 b, true, isi_str.2.1 b, eqB_go ⟨_, rfl, eqT_go ?_⟩⟩⟩
      rw [decide_eq_true rfl]
      exact hq
    | tup xs =>
      cases d with
      | zero => exact False.elim hx
      | succ d =>
        obtain ⟨hz, hx⟩ := hx
        have hz' : (xs.length : Int) < 2 ^ 62 := by rw [sizeLine_eq] at hz; omega
        refine ⟨_, rfl, false, isi_bool.2.2.1 xs, false, isi_bool.2.2.1 xs, false, isi_int.2.2.1 xs, false, isi_str.2.2.1 xs, false, isi_dict.1 xs, ?_⟩
        refine ⟨true, isi_tuple.1 xs, true, isi_tuple.1 xs, eqB_go ⟨_, rfl, false, isi_list.1 xs, false, isi_list.1 xs, eqB_go ⟨_, rfl, eqI_go (ite2 (fun _ => ?_) (fun h => absurd (decide_eq_true rfl) h))⟩⟩⟩
        refine ⟨by omega, hz', by simpa [rangeD] using hz, dLcW_map (fun _ => .bl true) rfl (fun y hy Q' hQ => ?_) ⟨_, all_true _, by rw [all_true2]; exact hq⟩⟩
        obtain ⟨i, hi, rfl⟩ := List.mem_map.mp hy
        have hi := List.mem_range.mp hi
        obtain ⟨x, hx1, hm⟩ := atI_mem (xs := xs) (k := (0 : Int) + (i : Nat)) (by omega) (by omega)
        exact ⟨trivial, _, x, rfl, hx1, trivial, _, x, rfl, hx1, rfl, x, rfl, hx x hm, hQ _ rfl⟩
    | lst xs =>
      cases d with
      | zero => exact False.elim hx
      | succ d =>
        obtain ⟨hz, hx⟩ := hx
        have hz' : (xs.length : Int) < 2 ^ 62 := by rw [sizeLine_eq] at hz; omega
        refine ⟨_, rfl, false, isi_bool.2.2.2.1 xs, false, isi_bool.2.2.2.1 xs, false, isi_int.2.2.2.1 xs, false, isi_str.2.2.2.1 xs, false, isi_dict.2.1 xs, ?_⟩
        refine ⟨false, isi_tuple.2 xs, false, isi_tuple.2 xs, eqB_go ⟨_, rfl, true, isi_list.2 xs, true, isi_list.2 xs, eqB_go ⟨_, rfl, eqI_go (ite2 (fun _ => ?_) (fun h => absurd (decide_eq_true rfl) h))⟩⟩⟩
        refine ⟨by omega, hz', by simpa [rangeD] using hz, dLcW_map (fun _ => .bl true) rfl (fun y hy Q' hQ => ?_) ⟨_, all_true _, by rw [all_true2]; exact hq⟩⟩
        obtain ⟨i, hi, rfl⟩ := List.mem_map.mp hy
        have hi := List.mem_range.mp hi
        obtain ⟨x, hx1, hm⟩ := atI_mem (xs := xs) (k := (0 : Int) + (i : Nat)) (by omega) (by omega)
        exact ⟨trivial, _, x, rfl, hx1, trivial, _, x, rfl, hx1, rfl, x, rfl, hx x hm, hQ _ rfl⟩
    | _ => cases d <;> exact False.elim hx

/-- _law_is -/
theorem ok_law_is (T : Txt P w K mg base C_Derivation C_Grammar C_InvalidName C_InvalidRule C_InvalidSequence C_InvalidStep C_LimitExceeded C_NoMatch C_OutOfRange C_TerminalSymbol C_UnknownSymbol C_DuplicateName C_UnknownUser C_MissingWeight C_RuleMismatch C_StepFailed C_StepInUse C_InvalidPath C_InvalidPoint C_Blocked C_InvalidFile C_SunderError C_NotFound) (G_Derivation_end : Mg CX0 P w K mg base C_Derivation "end" 1 1 (spDvEnd C_Derivation C_Grammar)) (G_Derivation_grammar : Mg CX0 P w K mg base C_Derivation "grammar" 1 1 (spDvGr C_Derivation C_Grammar)) (G_Derivation_len : Mg CX0 P w K mg base C_Derivation "__len__" 1 1 (spDvLen C_Derivation C_Grammar)) (G_Derivation_repr : Mg CX0 P w K mg base C_Derivation "__repr__" 1 1 (spDvRepr C_Derivation C_Grammar)) (G_Derivation_sequences : Mg CX0 P w K mg base C_Derivation "sequences" 1 1 (spDvRows C_Derivation C_Grammar)) (G_Derivation_start : Mg CX0 P w K mg base C_Derivation "start" 1 1 (spDvStart C_Derivation C_Grammar)) (G_Derivation_steps : Mg CX0 P w K mg base C_Derivation "steps" 1 1 (spDvSteps C_Derivation C_Grammar)) (G_Derivation_str : Mg CX0 P w K mg base C_Derivation "__str__" 5 1 (spDvStr C_Derivation C_Grammar)) (G_Grammar_eq : Mg CX0 P w K mg base C_Grammar "__eq__" 1 2 (spGrEq C_Grammar)) (G_Grammar_init : Kg (L2.CX P w) P w K mg base "Grammar" C_Grammar 3 1 (spGrammar C_Grammar C_LimitExceeded C_InvalidName C_InvalidRule)) (G__law_after : Cal P w K mg base "_law_after" 1 3 spLawAfter) (G__law_same : Cal P w K mg base "_law_same" 9 2 (spSame 8)) : Cal P w K mg base "_law_is" 10 4 (spLawIs C_Derivation C_Grammar) := by
  refine dcal_ok T.d__law_is sc_law_is bi_law_is (fun f Z cdv A outer s H E hr => (have hu := hu100 hr; have nd := sc_law_is.nd; (dss_cons (ds_if (DW.dt (dw_or (dt_not (dt_tru (de_isiO T.io_Derivation (by rfl) T.z_isinstance (by decide +kernel) (da_cons (dv 0) (da_cons (de_clsN (by rfl) T.m_Derivation) da_nil))))) (dw_or1 (dt_neO T.no_Grammar G_Grammar_eq (hr.mono (by decide)) (dmethG0 G_Derivation_grammar (hr.mono (by decide)) go0 (dv 0)) (dmakeG G_Grammar_init (hr.mono (by decide)) goN (da_cons (de_callTy call_dictD cd_dict (by rfl) T.z_dict (by decide +kernel) (da_cons (dv 1) da_nil)) da_nil)) (nomark _))))) (dss_one (ds_ret de_bl)) dss_nil)
    (dss_cutc (dson 4 nd (dn_lst (da_cons (dv 2) da_nil)))
    (dss_cutc (ds_wp [1, 5, 6, 7, 8] (ds_for rfl (di_wp [5, 6, 7, 8] (di_seq (dv 3))) (dgn 5 nd) (dss_wp [5, 6, 7, 8] (dss_one (ds_mut 4 PySem.F.slot_list_append PySem.F.type_list_append mt_append mu_app (dcall G__law_after (hr.mono (by decide)) (da_cons (dv 1) (da_cons (dix 4 hu (de_neg de_int)) (da_cons (dv 5) da_nil)))))))))
    (dss_cutc (ds_setLc (i := 6) rfl nd rfl rfl (L2.sw_true rfl rfl rfl (by decide +kernel)) (own := [("_law_step", 5)]) (di_seq (dv 3)) (blkOk_by (N := ["_law_told", "_law_rules_here", "_law_start", "_law_steps_here", "_law_rows", "_law_step", "_law_words", "_law_text", "_law_look"]) (sc := defScope s_law_is) (by decide +kernel)) (fun _ _ _ _ _ => (dgn 5 nd)) (fun _ _ _ _ _ => dts_nil) (fun _ _ _ _ _ => (de_ms PySem.F.slot_str_join PySem.F.type_str_join mt_join md_join de_str (da_cons (de_op oo_add od_add (de_lst (da_cons (dix 5 hu de_int) (da_cons (de_callTy call_str_int cd_stri (by rfl) T.z_str (by decide +kernel) (da_cons (dix 5 hu de_int) da_nil)) da_nil))) (de_callTy (co_list rfl) cd_list (by rfl) T.z_list (by decide +kernel) (da_cons (de_slice oo_sl od_sl (dv 5) (do_some de_int) do_none) da_nil))) da_nil))))
    (dss_cutc (dset 7 nd (de_if (dt_cmp (oo_eq hu) od_eq (dv 6) (de_lst da_nil) (nomark _)) (de_ms PySem.F.slot_str_join PySem.F.type_str_join mt_join md_join de_str (da_cons (dv 2) da_nil)) (de_op oo_add od_add (de_op oo_add od_add (de_ms PySem.F.slot_str_join PySem.F.type_str_join mt_join md_join de_str (da_cons (dv 2) da_nil)) de_str) (de_ms PySem.F.slot_str_join PySem.F.type_str_join mt_join md_join de_str (da_cons (dv 6) da_nil)))))
    (dss_cutc (dset 8 nd (de_op oo_add od_add (de_op oo_add od_add (de_op oo_add od_add (de_op oo_add od_add (de_op oo_add od_add (de_op oo_add od_add de_str (de_callTy call_str_int cd_stri (by rfl) T.z_str (by decide +kernel) (da_cons (de_callB co_len cd_len (by rfl) T.z_len (by decide +kernel) (da_cons (dv 3) da_nil)) da_nil))) de_str) (de_callTy call_str_int cd_stri (by rfl) T.z_str (by decide +kernel) (da_cons (de_callB co_len cd_len (by rfl) T.z_len (by decide +kernel) (da_cons (dv 2) da_nil)) da_nil))) de_str) (de_callTy call_str_int cd_stri (by rfl) T.z_str (by decide +kernel) (da_cons (de_callB co_len cd_len (by rfl) T.z_len (by decide +kernel) (da_cons (dix 4 hu (de_neg de_int)) da_nil)) da_nil))) de_str))
    (dss_one (ds_ret (dcall G__law_same (hr.mono (by decide)) (da_cons (de_lst (da_cons (dmethG0 G_Derivation_start (hr.mono (by decide)) go0 (dv 0)) (da_cons (dmethG0 G_Derivation_steps (hr.mono (by decide)) go0 (dv 0)) (da_cons (dmethG0 G_Derivation_sequences (hr.mono (by decide)) go0 (dv 0)) (da_cons (dmethG0 G_Derivation_end (hr.mono (by decide)) go0 (dv 0)) (da_cons (de_lenO G_Derivation_len (hr.mono (by decide)) (by rfl) T.z_len (by decide +kernel) (da_cons (dv 0) da_nil)) (da_cons (de_strO G_Derivation_str (hr.mono (by decide)) (by rfl) T.z_str (by decide +kernel) (da_cons (dv 0) da_nil)) (da_cons (de_reprO G_Derivation_repr (hr.mono (by decide)) (by rfl) T.z_repr (by decide +kernel) (da_cons (dv 0) da_nil)) da_nil)))))))) (da_cons (de_lst (da_cons (dv 2) (da_cons (dv 3) (da_cons (dv 4) (da_cons (dix 4 hu (de_neg de_int)) (da_cons (de_callB co_len cd_len (by rfl) T.z_len (by decide +kernel) (da_cons (dv 3) da_nil)) (da_cons (dv 7) (da_cons (dv 8) da_nil)))))))) da_nil))))))))))))) ?_
  rintro ds Q E ⟨r, s, ts, rfl, ⟨d, sm⟩, hq⟩
  have g := d.g
  have m1 := d.most
  obtain ⟨sr, se, sw⟩ := srt_run g d.mem d.run
  have small := steps_small g d.mem d.run sm
  have rl := run_len g d.mem d.run
  have e1 : (ts.map encP).length = ts.length := List.length_map ..
  have e2 := len_encS s
  have s1 := stepsT_sum small
  have s2 := stepsT_len small
  have s3 := textS_len s
  have s4 := sum_le (s := s) (n := 6) fun y hy => (nameB_len (g.nm y (d.mem y hy))).2
  have l1 := d.len
  refine ⟨isOb_dv, rfl, ?_⟩
  refine ⟨⟨_, _, rfl, rfl⟩, rfl, srtR r, s, ts, rfl, ?_⟩
  refine ⟨rfl, r, rfl, g.size, ?_⟩
  rw [g.err]
  refine eqO_go isOb_gr isOb_gr ⟨rfl, srtR r, srtR r, rfl, g.srt.szok, g.srt.szok, _, rfl, ?_⟩
  rw [sameR_refl]
  refine ⟨_, rfl, ?_⟩
  refine ⟨fun ρ => ρ = [some (Lv.val (dvD C_Derivation C_Grammar (srtR r) s ts)), some (Lv.val (encR r)), some (Lv.val (encS s)), some (Lv.val (.lst (ts.map encP))), some (Lv.own (.lst [encS s])), none, none, none, none], ⟨by show 1 ≤ sizeLine; decide, by show 4 < 9; decide, rfl⟩, ?_⟩
  rintro ρ rfl
  refine ⟨fun ρ => ρ = [some (Lv.val (dvD C_Derivation C_Grammar (srtR r) s ts)), none, some (Lv.val (encS s)), some (Lv.val (.lst (ts.map encP))), some (Lv.own (.lst ((rowsP r s ts).map encS))), none, none, none, none], ?_, ?_⟩
  · refine walk_on (e := encP) (fun l ρ => ∃ done, done ++ l = ts ∧ ρ = [some (Lv.val (dvD C_Derivation C_Grammar (srtR r) s ts)), some (Lv.val (encR r)), some (Lv.val (encS s)), some (Lv.val (.lst (ts.map encP))), some (Lv.own (.lst ((rowsP r s done).map encS))), none, none, none, none]) ⟨[], rfl, rfl⟩ ?_ ?_
    · rintro ρ ⟨done, e, rfl⟩
      rw [List.append_nil] at e
      subst e
      rfl
    · rintro t l ρ K' hn _ _ _ ⟨done, e, rfl⟩
      have hr2 := d.run
      rw [← e] at hr2
      obtain ⟨o1, o2, _⟩ := okRun_take hr2
      have rl2 := run_len g d.mem o1
      obtain ⟨q1, q2⟩ := run_ok g d.ne d.mem o1
      have el := congrArg List.length e
      simp only [List.length_append, List.length_cons] at el
      have lastE : atI ((rowsP r s done).map encS) (-1) = some (encS (runP r s done)) := by
        rw [atI_last (by simpa using rowsP_ne), List.getLast_map, rowsP_last]
      refine ⟨⟨_, rfl⟩, trivial, -1, _, rfl, lastE, rfl, r, runP r s done, t, rfl, g, ⟨q1, q2, by omega⟩, o2, ?_⟩
      refine ⟨by rw [List.length_map, rowsP_len, sizeLine_eq]; omega, ?_⟩
      refine hn _ ⟨done ++ [t], by rw [← e]; simp, ?_⟩
      rw [rowsP_snoc, List.map_append]
      simp only [wipeD, merge, keepV, List.map_cons, List.map_nil, List.set_cons_zero, List.set_cons_succ, List.getElem?_cons_succ, List.getElem?_cons_zero]
  rintro ρ rfl
  have lastE : atI ((rowsP r s ts).map encS) (-1) = some (encS (runP r s ts)) := by
    rw [atI_last (by simpa using rowsP_ne), List.getLast_map, rowsP_last]
  have e0 : (" " : Str).length = 1 := by decide +kernel
  have x1 : ("expand" : Str).length = 6 := by decide +kernel
  have x2 : ("contract" : Str).length = 8 := by decide +kernel
  refine ⟨fun ρ => ρ = [some (Lv.val (dvD C_Derivation C_Grammar (srtR r) s ts)), none, some (Lv.val (encS s)), some (Lv.val (.lst (ts.map encP))), some (Lv.own (.lst ((rowsP r s ts).map encS))), none, some (Lv.val (.lst ((ts.map fun t => textS (stepT t)).map DV.str))), none, none], ?_, ?_⟩
  · refine ⟨by rw [e1]; exact line6 (by omega), ?_⟩
    refine lc_map (e := encP) (c := DV.str) (fun t => textS (stepT t)) rfl (fun t ht Q' hQ => ?_) ?_
    · have sm1 := small t ht
      cases t with
      | ex p =>
        have hp : p < 10000 := sm1
        have hl := TL.numL_len (n := p) (k := 4) (by decide) (by omega)
        refine ⟨⟨_, rfl⟩, trivial, 0, _, rfl, atI_nat (j := 0) rfl, trivial, 1, _, rfl, atI_nat (j := 1) rfl, nlog (by omega), by show 2 ≤ sizeLine; decide, ?_⟩
        refine ⟨2, rfl, ?_⟩
        refine slU_go ?_
        show fAdd _ _ _
        refine addL_go (by show 2 + 0 ≤ 1000000; decide) ?_
        refine ⟨_, ["expand", numS p], rfl, .inl rfl, ?_, hQ _ rfl⟩
        simp only [List.map_cons, List.map_nil, List.sum_cons, List.sum_nil, List.length_cons, List.length_nil, e0, x1, numS_len]
        omega
      | co p x =>
        have hp : p < 10000 := sm1.1
        have hx := nameB_len sm1.2
        have hl := TL.numL_len (n := p) (k := 4) (by decide) (by omega)
        refine ⟨⟨_, rfl⟩, trivial, 0, _, rfl, atI_nat (j := 0) rfl, trivial, 1, _, rfl, atI_nat (j := 1) rfl, nlog (by omega), by show 2 ≤ sizeLine; decide, ?_⟩
        refine ⟨2, rfl, ?_⟩
        refine slU_go ?_
        show fAdd _ _ _
        refine addL_go (by show 2 + 1 ≤ 1000000; decide) ?_
        refine ⟨_, ["contract", numS p, x], rfl, .inl rfl, ?_, hQ _ rfl⟩
        simp only [List.map_cons, List.map_nil, List.sum_cons, List.sum_nil, List.length_cons, List.length_nil, e0, x2, numS_len]
        omega
    rw [List.map_map]
    rfl
  rintro ρ rfl
  refine ⟨fun ρ => ρ = [some (Lv.val (dvD C_Derivation C_Grammar (srtR r) s ts)), none, some (Lv.val (encS s)), some (Lv.val (.lst (ts.map encP))), some (Lv.own (.lst ((rowsP r s ts).map encS))), none, some (Lv.val (.lst ((ts.map fun t => textS (stepT t)).map DV.str))), some (Lv.val (.str (strD s ts))), none], ?_, ?_⟩
  · refine ⟨by show 0 ≤ sizeLine; decide, ?_⟩
    refine eqLnil_go (okDs_map fun x hx => ?_) (Nat.le_trans (depDs_map (n := 0) fun _ _ => by simp [depD]) (by decide)) ?_
    · obtain ⟨z, hz, rfl⟩ := List.mem_map.mp hx
      simp [okD, strOk_textS (okS_stepT (small z hz))]
    refine ⟨_, rfl, ?_⟩
    unfold strD
    cases ts with
    | nil =>
      refine ⟨⟨_, rfl⟩, _, s, rfl, .inr rfl, by rw [e0]; omega, ?_⟩
      rfl
    | cons t ts =>
      rw [if_neg (by simp)]
      refine ⟨⟨_, rfl⟩, _, s, rfl, .inr rfl, by rw [e0]; omega, ?_⟩
      refine addT_go (by rw [sp3b.2.2.2]; show (textS s).length + 3 ≤ _; omega) ?_
      refine ⟨⟨_, rfl⟩, _, (t :: ts).map fun t => textS (stepT t), rfl, .inl rfl, by rw [List.length_map, sp3b.2.2.1]; omega, ?_⟩
      refine addT_go (by rw [app_len, sp3b.2.2.2]; simp only [List.map_cons, List.length_cons] at s2 m1 ⊢; show (textS s).length + 3 + _ ≤ _; omega) ?_
      rfl
  rintro ρ rfl
  refine ⟨fun ρ => ρ = [some (Lv.val (dvD C_Derivation C_Grammar (srtR r) s ts)), none, some (Lv.val (encS s)), some (Lv.val (.lst (ts.map encP))), some (Lv.own (.lst ((rowsP r s ts).map encS))), none, some (Lv.val (.lst ((ts.map fun t => textS (stepT t)).map DV.str))), some (Lv.val (.str (strD s ts))), some (Lv.val (.str (reprD ts.length s.length (runP r s ts).length)))], ?_, ?_⟩
  · obtain ⟨y1, y2, y3, y4⟩ := reprD_parts
    have e3 := len_encS (runP r s ts)
    have n1 := nlen (n := (ts.map encP).length) (by omega)
    have n2 := nlen (n := (s.map DV.str).length) (by omega)
    have n3 := nlen (n := ((runP r s ts).map DV.str).length) (by omega)
    rw [← e1, ← e2, ← e3]
    unfold reprD
    refine ⟨nlog (by omega), addT_go (by rw [y1]; show 11 + (numS (ts.map encP).length).length ≤ _; omega) ?_⟩
    refine addT_go (by rw [app_len, y1, y2]; show 11 + (numS (ts.map encP).length).length + 8 ≤ _; omega) ?_
    refine ⟨nlog (by omega), addT_go (by rw [app_len, app_len, y1, y2]; show 11 + (numS (ts.map encP).length).length + 8 + (numS (s.map DV.str).length).length ≤ _; omega) ?_⟩
    refine addT_go (by rw [app_len, app_len, app_len, y1, y2, y3]; show 11 + (numS (ts.map encP).length).length + 8 + (numS (s.map DV.str).length).length + 4 ≤ _; omega) ?_
    refine ⟨trivial, -1, _, rfl, lastE, nlog (by omega), addT_go (by rw [app_len, app_len, app_len, app_len, y1, y2, y3]; show 11 + (numS (ts.map encP).length).length + 8 + (numS (s.map DV.str).length).length + 4 + (numS ((runP r s ts).map DV.str).length).length ≤ _; omega) ?_⟩
    refine addT_go (by rw [app_len, app_len, app_len, app_len, app_len, y1, y2, y3, y4]; show 11 + (numS (ts.map encP).length).length + 8 + (numS (s.map DV.str).length).length + 4 + (numS ((runP r s ts).map DV.str).length).length + 9 ≤ _; omega) ?_
    rfl
  rintro ρ rfl
  refine ⟨⟨_, _, rfl, rfl⟩, rfl, srtR r, s, ts, rfl, ?_⟩
  refine ⟨⟨_, _, rfl, rfl⟩, rfl, srtR r, s, ts, rfl, ?_⟩
  refine ⟨⟨_, _, rfl, rfl⟩, rfl, srtR r, s, ts, rfl, ?_⟩
  refine ⟨⟨_, _, rfl, rfl⟩, rfl, srtR r, s, ts, rfl, ?_⟩
  refine lenO_go isOb_dv ⟨rfl, srtR r, s, ts, rfl, ts.length, rfl, by omega, ?_⟩
  refine txtO_go isOb_dv ⟨rfl, srtR r, s, ts, rfl, by omega, by omega, small, _, rfl, ?_⟩
  refine txtO_go isOb_dv ⟨rfl, srtR r, s, ts, rfl, by omega, by omega, by rw [se]; omega, _, rfl, ?_⟩
  refine ⟨by show 7 ≤ sizeLine; decide, ?_⟩
  refine ⟨trivial, -1, _, rfl, lastE, ?_⟩
  refine ⟨by show 7 ≤ sizeLine; decide, ?_⟩
  refine same_go (d := 7) (by rw [se, sw, e1]) ?_ hq
  rw [se, sw]
  have pr := plain_rows (r := r) (s := s) (ts := ts) (d := 4) g d.mem d.run (by omega)
  have ps := plain_steps (ts := ts) (d := 4) (by omega)
  have p1 := plain_encS' (s := s) (d := 5) (by omega)
  have p2 := plain_encS' (s := runP r s ts) (d := 5) (by omega)
  refine ⟨by show 7 ≤ sizeLine; decide, fun y hy => ?_⟩
  simp only [List.mem_cons, List.not_mem_nil, or_false] at hy
  rcases hy with rfl | rfl | rfl | rfl | rfl | rfl | rfl
  · exact p1
  · exact ps
  · exact pr
  · exact p2
  · exact trivial
  · exact trivial
  · exact trivial

/-- _law_step_error -/
theorem ok_law_step_error (T : Txt P w K mg base C_Derivation C_Grammar C_InvalidName C_InvalidRule C_InvalidSequence C_InvalidStep C_LimitExceeded C_NoMatch C_OutOfRange C_TerminalSymbol C_UnknownSymbol C_DuplicateName C_UnknownUser C_MissingWeight C_RuleMismatch C_StepFailed C_StepInUse C_InvalidPath C_InvalidPoint C_Blocked C_InvalidFile C_SunderError C_NotFound) : Cal P w K mg base "_law_step_error" 1 3 spStepErr := by
  refine dcal_ok T.d__law_step_error sc_law_step_error bi_law_step_error (fun f Z cdv A outer s H E hr => (have hu := hu100 hr; have nd := sc_law_step_error.nd; (dss_cutc (dset 3 nd (de_or (de_and (de_cmp (oo_eq hu) od_eq (de_callB co_len cd_len (by rfl) T.z_len (by decide +kernel) (da_cons (dv 2) da_nil)) de_int (nomark _)) (de_one (de_cmp (oo_eq hu) od_eq (dix 2 hu de_int) de_str (nomark _)))) (de_one (de_and (de_cmp (oo_eq hu) od_eq (de_callB co_len cd_len (by rfl) T.z_len (by decide +kernel) (da_cons (dv 2) da_nil)) de_int (nomark _)) (de_one (de_cmp (oo_eq hu) od_eq (dix 2 hu de_int) de_str (nomark _)))))))
    (dss_cons (ds_if (dt_not (dt_tru (dv 3))) (dss_one (ds_ret (de_tup (da_cons de_str (da_cons de_non da_nil))))) dss_nil)
    (dss_cons (dset 4 nd (dix 2 hu de_int))
    (dss_cons (ds_if (dt_not (dt_chain op_le od_ib (oo_ltA hu) od_ltA de_int (dv 4) (de_callB co_len cd_len (by rfl) T.z_len (by decide +kernel) (da_cons (dv 1) da_nil)))) (dss_one (ds_ret (de_tup (da_cons de_str (da_cons (dv 4) da_nil))))) dss_nil)
    (dss_cons (ds_if (dt_cmp (oo_eq hu) od_eq (dix 2 hu de_int) de_str (nomark _)) (dss_one (ds_ret (de_if (dt_cmp (oo_eq hu) od_eq (dix 0 hu (dix 1 hu (dv 4))) (de_tup da_nil) (nomark _)) (de_tup (da_cons de_str (da_cons (dv 4) da_nil))) (de_tup (da_cons de_str (da_cons de_non da_nil)))))) dss_nil)
    (dss_cons (ds_if (dt_cmp (oo_nin hu) od_nin (dix 2 hu de_int) (dv 0) (by rfl)) (dss_one (ds_ret (de_tup (da_cons de_str (da_cons (dix 2 hu de_int) da_nil))))) dss_nil)
    (dss_cons (dset 5 nd (dix 0 hu (dix 2 hu de_int)))
    (dss_one (ds_ret (de_if (DW.dt (dw_or (dt_cmp (oo_eq hu) od_eq (dv 5) (de_tup da_nil) (nomark _)) (dw_or1 (dt_cmp (oo_ne hu) od_ne (de_slice oo_sl od_sl (dv 1) (do_some (dv 4)) (do_some (de_op op_add od_addI (dv 4) (de_callB co_len cd_len (by rfl) T.z_len (by decide +kernel) (da_cons (dv 5) da_nil))))) (dv 5) (nomark _))))) (de_tup (da_cons de_str (da_cons (dv 4) da_nil))) (de_tup (da_cons de_str (da_cons de_non da_nil))))))))))))))) ?_
  rintro ds Q E ⟨r, s, t, rfl, ha, g, hs, hq⟩
  have e0 := len_encS s
  refine ⟨fun ρ => ρ = [some (Lv.val (encR r)), some (Lv.val (encS s)), some (Lv.val (encX t)), some (Lv.val (.bl (goodX t))), none, none], ?_, ?_⟩
  · cases t with
    | ex i => exact eqI_go ⟨trivial, 0, _, rfl, atI_nat (j := 0) rfl, eqT_go rfl⟩
    | co i x => exact eqI_go (eqI_go ⟨trivial, 0, _, rfl, atI_nat (j := 0) rfl, eqT_go rfl⟩)
    | od xs =>
      obtain ⟨hb, hx⟩ := ha
      rcases hx with rfl | ⟨z, ys, rfl⟩
      · exact eqI_go (eqI_go rfl)
      · match ys, hb with
        | [], _ => exact eqI_go (eqI_go rfl)
        | [a], hb =>
          refine eqI_go ⟨trivial, 0, _, rfl, atI_nat (j := 0) rfl, eqT_go ?_⟩
          rw [show decide (z = ("expand" : Str)) = false from hb]
          exact eqI_go rfl
        | [a, b], hb =>
          refine eqI_go (eqI_go ⟨trivial, 0, _, rfl, atI_nat (j := 0) rfl, eqT_go ?_⟩)
          rw [show decide (z = ("contract" : Str)) = false from hb]
          rfl
        | a :: b :: c :: l, _ =>
          refine eqI_go ?_
          rw [decide_eq_false (by simp only [List.length_cons]; omega)]
          refine eqI_go ?_
          rw [decide_eq_false (by simp only [List.length_cons]; omega)]
          rfl
  rintro ρ rfl
  cases t with
  | od xs => exact ⟨by show 2 ≤ sizeLine; decide, hq⟩
  | ex i =>
    refine ⟨trivial, 1, _, rfl, atI_nat (j := 1) rfl, ?_⟩
    by_cases h0 : ¬ 0 ≤ i
    · replace hq : Q (dueX (outEx r s i)) := hq
      unfold outEx at hq
      rw [if_neg (fun c => h0 c.1)] at hq
      refine ⟨_, rfl, iteN (show ¬ (0 : Int) ≤ i from h0) ?_⟩
      exact ⟨_, rfl, by show 2 ≤ sizeLine; decide, hq⟩
    have h0 := Decidable.not_not.mp h0
    refine ⟨_, rfl, iteY (show (0 : Int) ≤ i from h0) ?_⟩
    by_cases h1 : ¬ i < s.length
    · replace hq : Q (dueX (outEx r s i)) := hq
      unfold outEx at hq
      rw [if_neg (fun c => h1 c.2)] at hq
      refine ⟨_, rfl, iteQ (fun _ => ?_) (fun h => absurd (show i < ((s.map DV.str).length : Int) from h) (by omega))⟩
      exact ⟨by show 2 ≤ sizeLine; decide, hq⟩
    have h1 := Decidable.not_not.mp h1
    refine ⟨_, rfl, iteQ (fun h => absurd (show i < ((s.map DV.str).length : Int) by omega) h) (fun _ => ?_)⟩
    obtain ⟨p, rfl⟩ : ∃ p : Nat, i = p := ⟨i.toNat, by omega⟩
    have hp : p < s.length := by omega
    replace hq : Q (dueX (outEx r s (p : Nat))) := hq
    rw [outEx_in hp] at hq
    refine ⟨trivial, 0, _, rfl, atI_nat (j := 0) rfl, eqT_go ?_⟩
    have hm := hs.2.1 _ (getD_mem hp)
    have hx : (s.map DV.str)[p]? = some (.str (s.getD p "")) := by rw [List.getElem?_map, List.getD_eq_getElem?_getD, List.getElem?_eq_getElem hp]; rfl
    obtain ⟨a1, a2, a3⟩ := g.get hm
    refine ⟨_, rfl, ?_⟩
    refine ⟨trivial, trivial, _, _, rfl, atI_nat hx, ixR_go hm ?_⟩
    refine ⟨Nat.zero_le _, eqS_nil (g.strs a3) ?_⟩
    refine ⟨_, rfl, ite2 (fun h => ?_) (fun h => ?_)⟩
    · have h : (getR r (s.getD p "")).isEmpty = true := h
      rw [if_pos (by simpa using h)] at hq
      exact ⟨by show 2 ≤ sizeLine; decide, hq⟩
    · have h : ¬ (getR r (s.getD p "")).isEmpty = true := h
      rw [if_neg (by simpa using h)] at hq
      exact ⟨by show 2 ≤ sizeLine; decide, hq⟩
  | co i x =>
    refine ⟨trivial, 1, _, rfl, atI_nat (j := 1) rfl, ?_⟩
    by_cases h0 : ¬ 0 ≤ i
    · replace hq : Q (dueX (outCo r s i x)) := hq
      unfold outCo at hq
      rw [if_neg (fun c => h0 c.1)] at hq
      refine ⟨_, rfl, iteN (show ¬ (0 : Int) ≤ i from h0) ?_⟩
      exact ⟨_, rfl, by show 2 ≤ sizeLine; decide, hq⟩
    have h0 := Decidable.not_not.mp h0
    refine ⟨_, rfl, iteY (show (0 : Int) ≤ i from h0) ?_⟩
    by_cases h1 : ¬ i < s.length
    · replace hq : Q (dueX (outCo r s i x)) := hq
      unfold outCo at hq
      rw [if_neg (fun c => h1 c.2)] at hq
      refine ⟨_, rfl, iteQ (fun _ => ?_) (fun h => absurd (show i < ((s.map DV.str).length : Int) from h) (by omega))⟩
      exact ⟨by show 2 ≤ sizeLine; decide, hq⟩
    have h1 := Decidable.not_not.mp h1
    refine ⟨_, rfl, iteQ (fun h => absurd (show i < ((s.map DV.str).length : Int) by omega) h) (fun _ => ?_)⟩
    obtain ⟨p, rfl⟩ : ∃ p : Nat, i = p := ⟨i.toNat, by omega⟩
    have hp : p < s.length := by omega
    replace hq : Q (dueX (outCo r s (p : Nat) x)) := hq
    rw [outCo_in hp] at hq
    refine ⟨trivial, 0, _, rfl, atI_nat (j := 0) rfl, eqT_go ?_⟩
    refine ⟨_, rfl, ?_⟩
    refine ⟨trivial, 2, _, rfl, atI_nat (j := 2) rfl, inR_go ⟨_, rfl, iteQ (fun hm => ?_) (fun hm => ?_)⟩⟩
    · rw [if_neg hm] at hq
      exact ⟨trivial, 2, _, rfl, atI_nat (j := 2) rfl, by show 2 ≤ sizeLine; decide, hq⟩
    rw [if_pos hm] at hq
    obtain ⟨a1, a2, a3⟩ := g.get hm
    refine ⟨trivial, trivial, 2, _, rfl, atI_nat (j := 2) rfl, ixR_go hm ?_⟩
    refine ⟨Nat.zero_le _, eqS_nil (g.strs a3) ?_⟩
    refine ⟨_, rfl, ite2 (fun h => ?_) (fun h => ?_)⟩
    · have h : (getR r x).isEmpty = true := h
      have : matchAt r s p x = false := by unfold matchAt; rw [h]; rfl
      rw [this] at hq
      exact ⟨by show 2 ≤ sizeLine; decide, hq⟩
    · have h : ¬ (getR r x).isEmpty = true := h
      have eb : matchAt r s p x = decide ((s.drop p).take (getR r x).length = getR r x) := by unfold matchAt; rw [Bool.eq_false_iff.mpr h]; rfl
      have el := len_encS (getR r x)
      rw [eb] at hq
      have e2 : ((p : Int) + (((getR r x).map DV.str).length : Nat)) = ((p + (getR r x).length : Nat) : Int) := by rw [el]; omega
      refine ⟨_, rfl, _, rfl, ?_⟩
      show fSl (encS s) (some (p : Int)) (some ((p : Int) + (((getR r x).map DV.str).length : Nat))) _
      rw [e2]
      refine slS_mid ?_
      rw [Nat.add_sub_cancel_left]
      refine eqS_go (fun y hy => g.strs hs.2.1 y (List.mem_of_mem_drop (List.mem_of_mem_take hy))) (g.strs a3) ?_
      refine ⟨_, rfl, iteQ (fun hn => ?_) (fun hn => ?_)⟩
      · rw [decide_eq_false hn] at hq
        exact ⟨by show 2 ≤ sizeLine; decide, hq⟩
      · rw [decide_eq_true hn] at hq
        exact ⟨by show 2 ≤ sizeLine; decide, hq⟩

set_option maxHeartbeats 0 in
theorem ok_law (T : Txt P w K mg base C_Derivation C_Grammar C_InvalidName C_InvalidRule C_InvalidSequence C_InvalidStep C_LimitExceeded C_NoMatch C_OutOfRange C_TerminalSymbol C_UnknownSymbol C_DuplicateName C_UnknownUser C_MissingWeight C_RuleMismatch C_StepFailed C_StepInUse C_InvalidPath C_InvalidPoint C_Blocked C_InvalidFile C_SunderError C_NotFound) (G_Derivation_contracted : Mg (L2.CX P w) P w K mg base C_Derivation "contracted" 8 3 (spDvCon C_Derivation C_Grammar C_LimitExceeded C_InvalidStep C_OutOfRange C_TerminalSymbol C_UnknownSymbol C_NoMatch)) (G_Derivation_expanded : Mg (L2.CX P w) P w K mg base C_Derivation "expanded" 8 2 (spDvExp C_Derivation C_Grammar C_LimitExceeded C_InvalidStep C_OutOfRange C_TerminalSymbol C_UnknownSymbol C_NoMatch)) (G_Derivation_init : Kg (L2.CX P w) P w K mg base "Derivation" C_Derivation 6 3 (spDeriv C_Derivation C_Grammar C_InvalidSequence C_LimitExceeded)) (G_Grammar_init : Kg (L2.CX P w) P w K mg base "Grammar" C_Grammar 3 1 (spGrammar C_Grammar C_LimitExceeded C_InvalidName C_InvalidRule)) (G__law_any_step : Cal P w K mg base "_law_any_step" 3 3 spAnyStep) (G__law_derivation : Cal P w K mg base "_law_derivation" 8 3 (spLawDeriv C_Derivation C_Grammar)) (G__law_drawn : Cal P w K mg base "_law_drawn" 5 2 (spLawDrawn 4)) (G__law_end : Cal P w K mg base "_law_end" 2 3 spLawEnd) (G__law_is : Cal P w K mg base "_law_is" 10 4 (spLawIs C_Derivation C_Grammar)) (G__law_possible : Cal P w K mg base "_law_possible" 1 2 spLawPoss) (G__law_same : Cal P w K mg base "_law_same" 9 2 (spSame 8)) (G__law_step_error : Cal P w K mg base "_law_step_error" 1 3 spStepErr) {f cL PL : Addr} {fd : FuncData} (F : Fun K "law" "law" slaw f fd) (hcode : fd.code = .ref cL) (TB : LamX.TabB base mg cL PL) : FnOk P w K mg base CX0 13 f fd ["_law_script"] (spLawT K PL) := by
  obtain ⟨fb, fdb, Gb, mb, kb, bb⟩ := ok_law_bag (P := P) (w := w) (base := base) T
  have D := ok_law_try (P := P) (w := w) (base := base) T
  refine dlaw_okT (qq := (("law" : Str) ++ ".<locals>.") ++ "<lambda>") F hcode sclaw rfl (by decide) rfl (fun cdv A outer s H E hr => ps_set (i := 1) sclaw.nd rfl (by first | exact .inl rfl | exact .inr rfl) (pe_call Gb (hr.mono (by decide)) (by rfl) mb kb bb .nil pass0 (pa_cons (pv 0) pa_nil))) (fun Z A outer s H E hTb hr => (have hu := hu100 hr; have nd := sclaw.nd; (dss_cutc (ds_wp [0, 1, 2, 3, 4, 5, 6, 7, 8, 9, 10, 11, 12, 13] (ds_for rfl (di_wp [0, 2, 3, 4, 5, 6, 7, 8, 9, 10, 11, 12, 13] (di_rng1 (by rfl) T.z_range (da_cons de_int da_nil))) (dgn 2 nd) (dss_wp [0, 2, 3, 4, 5, 6, 7, 8, 9, 10, 11, 12, 13] (dss_cutc (ds_asg (dcall G__law_drawn (hr.mono (by decide)) (da_cons (dv 1) (da_cons de_int da_nil))) (dg_tl (n := 3) rfl (dgs_cons (dgn 3 nd) (dgs_cons (dgn 4 nd) (dgs_cons (dgn 5 nd) dgs_nil)))))
    (dss_cutc (ds_asg (de_tup (da_cons (dcall G__law_derivation (hr.mono (by decide)) (da_cons (dv 3) (da_cons (dv 4) (da_cons (dv 5) da_nil)))) (da_cons (dcall G__law_end (hr.mono (by decide)) (da_cons (dv 3) (da_cons (dv 4) (da_cons (dv 5) da_nil)))) da_nil))) (dg_tl (n := 2) rfl (dgs_cons (dgn 6 nd) (dgs_cons (dgn 7 nd) dgs_nil))))
    (dss_one (ds_wp [0, 2, 3, 4, 5, 6, 7, 8, 9, 10, 11, 12, 13] (ds_for rfl (di_wp [0, 2, 8, 9, 10, 11, 12, 13] (di_seq (de_op oo_add od_add (de_slice oo_sl od_sl (dcall G__law_possible (hr.mono (by decide)) (da_cons (dv 3) (da_cons (dv 7) da_nil))) do_none (do_some de_int)) (de_lc (own := [("_law_k", 9)]) rfl nd (di_rng1 (by rfl) T.z_range (da_cons de_int da_nil)) (blkOk_by (N := ["_law_script", "_law_bag_here", "_law_turn", "_law_rules_here", "_law_start", "_law_steps_here", "_law_told", "_law_here", "_law_step", "_law_k", "_law_due", "_law_found", "_law_full", "_law_words"]) (sc := defScope slaw) (by decide +kernel)) (fun _ _ _ _ _ => (dgn 9 nd)) (fun _ _ _ _ _ => dts_nil) (fun _ _ _ _ _ => (dcall G__law_any_step (hr.mono (by decide)) (da_cons (dv 1) (da_cons (dv 3) (da_cons (dv 7) da_nil))))))))) (dgn 8 nd) (dss_wp [0, 2, 8, 9, 10, 11, 12, 13] (dss_cutc (dset 10 nd (dcall G__law_step_error (hr.mono (by decide)) (da_cons (dv 3) (da_cons (dv 7) (da_cons (dv 8) da_nil)))))
    (dss_one (ds_if (dt_cmp (oo_ne hu) od_ne (dix 10 hu de_int) de_str (nomark _)) (dss_cutc (dset 11 nd (de_try (k := 10) (L := (LamX.lamS_by (sc := defScope slaw) (by decide +kernel))) [6, 8] D (hr.mono (by decide)) TB rfl hTb (fun F0 H0 W w1 lk A outer s H E f c1 hr tk => (have hu := hu100 hr; (de_if (dt_cmp (oo_eq hu) od_eq (de_callB co_len cd_len (by rfl) T.z_len (by decide +kernel) (da_cons (dv 8) da_nil)) de_int (nomark _)) (dmethG G_Derivation_expanded (hr.mono (by decide)) (goX tk) (dv 6) (da_cons (dix 8 hu de_int) da_nil)) (dmethG G_Derivation_contracted (hr.mono (by decide)) (goX tk) (dv 6) (da_cons (dix 8 hu de_int) (da_cons (dix 8 hu de_int) da_nil))))))))
    (dss_cutc (ds_if (DW.dt (dw_and (dt_cmp (oo_ne hu) od_ne (dix 10 hu de_int) de_str (nomark _)) (dw_and1 (dt_not (dt_tru (dcall G__law_same (hr.mono (by decide)) (da_cons (dv 11) (da_cons (dv 10) da_nil)))))))) (dss_one (ds_ret de_bl)) dss_nil)
    (dss_cons (ds_if (DW.dt (dw_and (dt_cmp (oo_eq hu) od_eq (dix 10 hu de_int) de_str (nomark _)) (dw_and1 (DW.dt (dw_or (dt_cmp (oo_ne hu) od_ne (dix 11 hu de_int) de_str (nomark _)) (dw_or1 (dt_not (dt_tru (dcall G__law_is (hr.mono (by decide)) (da_cons (dix 11 hu de_int) (da_cons (dv 3) (da_cons (dv 4) (da_cons (de_op oo_add od_add (dv 5) (de_lst (da_cons (dv 8) da_nil))) da_nil))))))))))))) (dss_one (ds_ret de_bl)) dss_nil)
    (dss_one (ds_if (dt_not (dt_tru (dcall G__law_is (hr.mono (by decide)) (da_cons (dv 6) (da_cons (dv 3) (da_cons (dv 4) (da_cons (dv 5) da_nil))))))) (dss_one (ds_ret de_bl)) dss_nil))))) dss_nil))))))))))))
    (dss_cutc (dset 12 nd (dmakeG G_Derivation_init (hr.mono (by decide)) goN (da_cons (dmakeG G_Grammar_init (hr.mono (by decide)) goN (da_cons (de_disp (dpr_cons de_str (de_tup (da_cons de_str (da_cons de_str da_nil))) dpr_nil)) da_nil)) (da_cons (de_tup (da_cons de_str da_nil)) (da_cons (de_op oo_mul od_mul (de_lst (da_cons (de_tup (da_cons de_str (da_cons de_int da_nil))) (da_cons (de_tup (da_cons de_str (da_cons de_int (da_cons de_str da_nil)))) da_nil))) de_int) da_nil)))))
    (dss_cutc (dset 13 nd (de_lst (da_cons (de_try (k := 10) (L := (LamX.lamS_by (sc := defScope slaw) (by decide +kernel))) [12] D (hr.mono (by decide)) TB rfl hTb (fun F0 H0 W w1 lk A outer s H E f c1 hr tk => (have hu := hu100 hr; (dmethG G_Derivation_expanded (hr.mono (by decide)) (goX tk) (dv 12) (da_cons (de_neg de_int) da_nil))))) (da_cons (de_tryD (k := 10) (L := (LamD.lamSD_by (sc := defScope slaw) (a0 := "_law_a") (by decide +kernel))) (hN := (nin "_law_a" sclaw (by decide) :)) [12] D (hr.mono (by decide)) TB rfl hTb (fun F0 H0 W w1 lk A outer s H E f c1 hr tk => (have hu := hu100 hr; (dmethG G_Derivation_contracted (hr.mono (by decide)) (goX tk) (dv 12) (da_cons (de_neg de_int) (da_cons de_str da_nil)))))) da_nil))))
    (dss_one (ds_ret (de_cmp (oo_eq hu) od_eq (dv 13) (de_op oo_mul od_mul (de_lst (da_cons (de_tup (da_cons de_str (da_cons de_int da_nil))) da_nil)) de_int) (nomark _))))))))) ?_
  intro p
  refine ⟨fun ρ => ρ = [none, none, none, none, none, none, none, none, none, none, none, none, none, none], ?_, ?_⟩
  · refine ⟨by decide, by decide, ?_⟩
    refine dWalk_by (fun _ ρ => ρ = [none, some (Lv.val (.bag p)), none, none, none, none, none, none, none, none, none, none, none, none]) (wipe_start _ (by decide)) ?_ ?_
    · rintro ρ rfl; rfl
    rintro d l ρ K0 hn _ _ _ rfl
    refine ⟨fun ρ => ∃ r s ts, LawR r ∧ 1 ≤ s.length ∧ s.length ≤ 4 ∧ (∀ x ∈ s, x ∈ namesR r) ∧ ts.length ≤ 10 ∧ okRun r s ts ∧ (runP r s ts).length ≤ s.length + 30 ∧ ρ = [none, some (Lv.val (.bag p)), some (Lv.val (d)), some (Lv.val (encR r)), some (Lv.val (encS s)), some (Lv.val (.lst (ts.map encP))), none, none, none, none, none, none, none, none], ?_, ?_⟩
    · refine ⟨rfl, p, 10, rfl, by decide, fun r s ts hr s1 s4 sm tl tr tk => ?_⟩
      have hk := tk ts.length
      rw [List.take_length] at hk
      exact ⟨rfl, rfl, r, s, ts, hr, s1, s4, sm, tl, tr, hk, rfl⟩
    rintro ρ ⟨r, s, ts, hr, s1, s4, sm, tl, tr, hk, rfl⟩
    have g : GrOk r := hr.1
    have s0 : s ≠ [] := fun e => by rw [e] at s1; exact absurd s1 (by decide)
    have d1 : DOk r s ts := ⟨g, s0, sm, by omega, tr, by omega⟩
    obtain ⟨l0, lm⟩ := run_ok g s0 sm tr
    obtain ⟨sr, se, sw⟩ := srt_run g sm tr
    refine ⟨fun ρ => ρ = [none, some (Lv.val (.bag p)), some (Lv.val (d)), some (Lv.val (encR r)), some (Lv.val (encS s)), some (Lv.val (.lst (ts.map encP))), some (Lv.val (dvD C_Derivation C_Grammar (srtR r) s ts)), some (Lv.val (encS (runP r s ts))), none, none, none, none, none, none], ?_, ?_⟩
    · refine ⟨rfl, r, s, ts, rfl, d1, ?_⟩
      refine ⟨rfl, r, s, ts, rfl, g, ⟨s0, sm, by omega⟩, by omega, tr, ?_⟩
      exact ⟨by show 2 ≤ sizeLine; decide, rfl, rfl, rfl⟩
    rintro ρ rfl
    refine ⟨rfl, r, runP r s ts, rfl, g, ⟨l0, lm, by omega⟩, by omega, 6, rfl, slL_go ?_⟩
    rw [show (6 : Int) = ((6 : Nat) : Int) from rfl, cutD_to]
    refine ⟨by decide, by decide, by decide, ?_⟩
    refine draws_any encX AnyX rfl (fun i Q' _ hQ => ?_) (fun v v1 v2 => ?_)
    · exact ⟨rfl, p, r, runP r s ts, rfl, hr, ⟨l0, lm, by omega⟩, by omega, fun t ht => hQ t _ ht rfl⟩
    refine addL_go (by rw [List.length_map, List.length_map, List.length_take, v1]; omega) ?_
    rw [show ((possP r (runP r s ts)).take 6).map encP ++ v.map encX = (((possP r (runP r s ts)).take 6).map toX ++ v).map encX by rw [List.map_append, List.map_map]; congr 1; exact List.map_congr_left fun t _ => (encX_to t).symm]
    have hall : ∀ t ∈ ((possP r (runP r s ts)).take 6).map toX ++ v, AnyX t := fun t ht => by
      rcases List.mem_append.mp ht with h | h
      · obtain ⟨q, hq, rfl⟩ := List.mem_map.mp h
        have ok := possP_ok (List.mem_of_mem_take hq)
        cases q with
        | ex q => exact ⟨by omega, by have := ok.1; omega⟩
        | co q x => exact ⟨by omega, by have := ok.1; omega, by have := (nameB_len (g.nm x ok.2.1)).2; omega, nameB_ok (g.nm x ok.2.1)⟩
      · exact v2 t h
    show dWalk _ _ _ (List.map encX _) _
    refine walk_on (e := encX) (fun l ρ => (∀ t ∈ l, AnyX t) ∧ ρ = [none, some (Lv.val (.bag p)), none, some (Lv.val (encR r)), some (Lv.val (encS s)), some (Lv.val (.lst (ts.map encP))), some (Lv.val (dvD C_Derivation C_Grammar (srtR r) s ts)), some (Lv.val (encS (runP r s ts))), none, none, none, none, none, none]) ⟨hall, ?_⟩ ?_ ?_
    · simp only [wipeD, merge, keepV, List.map_cons, List.map_nil, List.set_cons_zero, List.set_cons_succ, List.getElem?_cons_succ, List.getElem?_cons_zero]
    · rintro ρ ⟨_, rfl⟩
      dsimp only
      refine hn _ ?_
      simp only [wipeD, merge, keepV, List.map_cons, List.map_nil, List.set_cons_zero, List.set_cons_succ, List.getElem?_cons_succ, List.getElem?_cons_zero]
    rintro t l ρ K' hn' _ _ _ ⟨ha, rfl⟩
    have ht := ha t List.mem_cons_self
    have hl : ∀ t ∈ l, AnyX t := fun t h => ha t (List.mem_cons_of_mem _ h)
    obtain ⟨o, ho⟩ : ∃ o, outX r (runP r s ts) t = o := ⟨_, rfl⟩
    refine ⟨fun ρ => ρ = [none, some (Lv.val (.bag p)), none, some (Lv.val (encR r)), some (Lv.val (encS s)), some (Lv.val (.lst (ts.map encP))), some (Lv.val (dvD C_Derivation C_Grammar (srtR r) s ts)), some (Lv.val (encS (runP r s ts))), some (Lv.val (encX t)), none, some (Lv.val (dueX o)), none, none, none], ⟨rfl, r, runP r s ts, t, rfl, ht, g, ⟨l0, lm, by omega⟩, by subst ho; rfl⟩, ?_⟩
    rintro ρ rfl
    cases t with
    | od xs =>
      cases ho
      refine ⟨trivial, 0, _, rfl, atI_nat (j := 0) rfl, eqT_go ⟨_, rfl, ?_⟩⟩
      dsimp only [dSkip]
      refine hn' _ ⟨hl, ?_⟩
      simp only [wipeD, merge, keepV, List.map_cons, List.map_nil, List.set_cons_zero, List.set_cons_succ, List.getElem?_cons_succ, List.getElem?_cons_zero]
    | ex i =>
      have hx : outEx (srtR r) (runP r s ts) i = o := (outX_srt (r := r) (s := runP r s ts) lm (.ex i)).trans ho
      by_cases he : errB o = true
      · obtain ⟨w, z, ed, n1, n2⟩ := due_err he
        have pl : plainD 7 (.tup [.str w, z]) := by rw [← ed]; exact dueX_plain
        rw [ed]
        refine ⟨trivial, 0, _, rfl, atI_nat (j := 0) rfl, eqT_go ⟨_, rfl, iteQ (fun _ => ?_) (fun h => absurd h n1)⟩⟩
        refine ⟨fun ρ => ρ = [none, some (Lv.val (.bag p)), none, some (Lv.val (encR r)), some (Lv.val (encS s)), some (Lv.val (.lst (ts.map encP))), some (Lv.val (dvD C_Derivation C_Grammar (srtR r) s ts)), some (Lv.val (encS (runP r s ts))), some (Lv.val (encX (.ex i))), none, some (Lv.val (.tup [.str w, z])), some (Lv.val (.tup [.str w, z])), none, none], ?_, ?_⟩
        · refine eqI_go ⟨_, rfl, iteY rfl ?_⟩
          refine ⟨⟨_, _, rfl, rfl⟩, trivial, 1, _, rfl, atI_nat (j := 1) rfl, rfl, srtR r, s, ts, i, rfl, d1.srt, by omega, ?_⟩
          rw [if_neg (by omega), se]
          rw [hx]
          refine raise_ans T.tr_OutOfRange T.tr_TerminalSymbol T.tr_UnknownSymbol T.tr_NoMatch he ?_
          rw [ed]
          rfl
        rintro ρ rfl
        refine ⟨fun ρ => ρ = [none, some (Lv.val (.bag p)), none, some (Lv.val (encR r)), some (Lv.val (encS s)), some (Lv.val (.lst (ts.map encP))), some (Lv.val (dvD C_Derivation C_Grammar (srtR r) s ts)), some (Lv.val (encS (runP r s ts))), some (Lv.val (encX (.ex i))), none, some (Lv.val (.tup [.str w, z])), some (Lv.val (.tup [.str w, z])), none, none], ?_, ?_⟩
        · refine ⟨trivial, 0, _, rfl, atI_nat (j := 0) rfl, eqT_go ⟨_, rfl, iteQ (fun _ => ?_) (fun h => absurd h n2)⟩⟩
          refine same_go (d := 7) rfl pl ?_
          rfl
        rintro ρ rfl
        refine ⟨trivial, 0, _, rfl, atI_nat (j := 0) rfl, eqT_go ⟨_, rfl, iteN (by simpa using n2) ?_⟩⟩
        refine ⟨rfl, r, s, ts, rfl, ⟨d1, by omega⟩, ?_⟩
        dsimp only [dSkip]
        refine hn' _ ⟨hl, ?_⟩
        simp only [wipeD, merge, keepV, List.map_cons, List.map_nil, List.set_cons_zero, List.set_cons_succ, List.getElem?_cons_succ, List.getElem?_cons_zero]
      cases o with
      | bad =>
        refine ⟨trivial, 0, _, rfl, atI_nat (j := 0) rfl, eqT_go ⟨_, rfl, iteQ (fun h => absurd rfl h) (fun _ => ?_)⟩⟩
        dsimp only [dSkip]
        refine hn' _ ⟨hl, ?_⟩
        simp only [wipeD, merge, keepV, List.map_cons, List.map_nil, List.set_cons_zero, List.set_cons_succ, List.getElem?_cons_succ, List.getElem?_cons_zero]
      | ok s' =>
        obtain ⟨q, rfl, hp, _⟩ := outEx_ok ho
        refine ⟨trivial, 0, _, rfl, atI_nat (j := 0) rfl, eqT_go ⟨_, rfl, iteQ (fun _ => ?_) (fun h => absurd h (by decide))⟩⟩
        --Feok
        refine ⟨fun ρ => ρ = [none, some (Lv.val (.bag p)), none, some (Lv.val (encR r)), some (Lv.val (encS s)), some (Lv.val (.lst (ts.map encP))), some (Lv.val (dvD C_Derivation C_Grammar (srtR r) s ts)), some (Lv.val (encS (runP r s ts))), some (Lv.val (encX (.ex (q : Nat)))), none, some (Lv.val (dueX (.ok s'))), some (Lv.val (.tup [.str "", dvD C_Derivation C_Grammar (srtR r) s (ts ++ [.ex q])])), none, none], ?_, ?_⟩
        · refine eqI_go ⟨_, rfl, iteY rfl ?_⟩
          refine ⟨⟨_, _, rfl, rfl⟩, trivial, 1, _, rfl, atI_nat (j := 1) rfl, rfl, srtR r, s, ts, ((q : Nat) : Int), rfl, d1.srt, by omega, ?_⟩
          rw [if_neg (by omega), se]
          rw [hx]
          rfl
        rintro ρ rfl
        refine ⟨fun ρ => ρ = [none, some (Lv.val (.bag p)), none, some (Lv.val (encR r)), some (Lv.val (encS s)), some (Lv.val (.lst (ts.map encP))), some (Lv.val (dvD C_Derivation C_Grammar (srtR r) s ts)), some (Lv.val (encS (runP r s ts))), some (Lv.val (encX (.ex (q : Nat)))), none, some (Lv.val (dueX (.ok s'))), some (Lv.val (.tup [.str "", dvD C_Derivation C_Grammar (srtR r) s (ts ++ [.ex q])])), none, none], ?_, ?_⟩
        · refine ⟨trivial, 0, _, rfl, atI_nat (j := 0) rfl, eqT_go ⟨_, rfl, iteQ (fun h => absurd rfl h) (fun _ => ?_)⟩⟩
          rfl
        rintro ρ rfl
        --Geok
        refine ⟨trivial, 0, _, rfl, atI_nat (j := 0) rfl, eqT_go ⟨_, rfl, iteY rfl ?_⟩⟩
        refine ⟨trivial, 0, _, rfl, atI_nat (j := 0) rfl, eqT_go ⟨_, rfl, iteQ (fun h => absurd rfl h) (fun _ => ?_)⟩⟩
        refine ⟨trivial, 1, _, rfl, atI_nat (j := 1) rfl, ?_⟩
        refine ⟨by show 1 ≤ sizeLine; decide, ?_⟩
        refine addL_go (by rw [List.length_map]; show _ + 1 ≤ _; omega) ?_
        refine ⟨rfl, r, s, ts ++ [.ex q], by rw [List.map_append]; rfl, ⟨d1.snoc hp (by omega) (by omega), by simp only [List.length_append, List.length_singleton]; omega⟩, ?_⟩
        refine ⟨rfl, r, s, ts, rfl, ⟨d1, by omega⟩, ?_⟩
        dsimp only [dSkip]
        refine hn' _ ⟨hl, ?_⟩
        simp only [wipeD, merge, keepV, List.map_cons, List.map_nil, List.set_cons_zero, List.set_cons_succ, List.getElem?_cons_succ, List.getElem?_cons_zero]
      | range j => exact absurd rfl he
      | term j => exact absurd rfl he
      | unk z => exact absurd rfl he
      | nom j => exact absurd rfl he
    | co i x =>
      have hx : outCo (srtR r) (runP r s ts) i x = o := (outX_srt (r := r) (s := runP r s ts) lm (.co i x)).trans ho
      by_cases he : errB o = true
      · obtain ⟨w, z, ed, n1, n2⟩ := due_err he
        have pl : plainD 7 (.tup [.str w, z]) := by rw [← ed]; exact dueX_plain
        rw [ed]
        refine ⟨trivial, 0, _, rfl, atI_nat (j := 0) rfl, eqT_go ⟨_, rfl, iteQ (fun _ => ?_) (fun h => absurd h n1)⟩⟩
        refine ⟨fun ρ => ρ = [none, some (Lv.val (.bag p)), none, some (Lv.val (encR r)), some (Lv.val (encS s)), some (Lv.val (.lst (ts.map encP))), some (Lv.val (dvD C_Derivation C_Grammar (srtR r) s ts)), some (Lv.val (encS (runP r s ts))), some (Lv.val (encX (.co i x))), none, some (Lv.val (.tup [.str w, z])), some (Lv.val (.tup [.str w, z])), none, none], ?_, ?_⟩
        · refine eqI_go ⟨_, rfl, iteN (show ¬ ((3 : Nat) : Int) = 2 by decide) ?_⟩
          refine ⟨⟨_, _, rfl, rfl⟩, trivial, 1, _, rfl, atI_nat (j := 1) rfl, trivial, 2, _, rfl, atI_nat (j := 2) rfl, rfl, srtR r, s, ts, i, x, rfl, d1.srt, by omega, ?_⟩
          rw [if_neg (by omega), se]
          rw [hx]
          refine raise_ans T.tr_OutOfRange T.tr_TerminalSymbol T.tr_UnknownSymbol T.tr_NoMatch he ?_
          rw [ed]
          rfl
        rintro ρ rfl
        refine ⟨fun ρ => ρ = [none, some (Lv.val (.bag p)), none, some (Lv.val (encR r)), some (Lv.val (encS s)), some (Lv.val (.lst (ts.map encP))), some (Lv.val (dvD C_Derivation C_Grammar (srtR r) s ts)), some (Lv.val (encS (runP r s ts))), some (Lv.val (encX (.co i x))), none, some (Lv.val (.tup [.str w, z])), some (Lv.val (.tup [.str w, z])), none, none], ?_, ?_⟩
        · refine ⟨trivial, 0, _, rfl, atI_nat (j := 0) rfl, eqT_go ⟨_, rfl, iteQ (fun _ => ?_) (fun h => absurd h n2)⟩⟩
          refine same_go (d := 7) rfl pl ?_
          rfl
        rintro ρ rfl
        refine ⟨trivial, 0, _, rfl, atI_nat (j := 0) rfl, eqT_go ⟨_, rfl, iteN (by simpa using n2) ?_⟩⟩
        refine ⟨rfl, r, s, ts, rfl, ⟨d1, by omega⟩, ?_⟩
        dsimp only [dSkip]
        refine hn' _ ⟨hl, ?_⟩
        simp only [wipeD, merge, keepV, List.map_cons, List.map_nil, List.set_cons_zero, List.set_cons_succ, List.getElem?_cons_succ, List.getElem?_cons_zero]
      cases o with
      | bad =>
        refine ⟨trivial, 0, _, rfl, atI_nat (j := 0) rfl, eqT_go ⟨_, rfl, iteQ (fun h => absurd rfl h) (fun _ => ?_)⟩⟩
        dsimp only [dSkip]
        refine hn' _ ⟨hl, ?_⟩
        simp only [wipeD, merge, keepV, List.map_cons, List.map_nil, List.set_cons_zero, List.set_cons_succ, List.getElem?_cons_succ, List.getElem?_cons_zero]
      | ok s' =>
        obtain ⟨q, rfl, hp, _⟩ := outCo_ok ho
        refine ⟨trivial, 0, _, rfl, atI_nat (j := 0) rfl, eqT_go ⟨_, rfl, iteQ (fun _ => ?_) (fun h => absurd h (by decide))⟩⟩
        --Fcok
        refine ⟨fun ρ => ρ = [none, some (Lv.val (.bag p)), none, some (Lv.val (encR r)), some (Lv.val (encS s)), some (Lv.val (.lst (ts.map encP))), some (Lv.val (dvD C_Derivation C_Grammar (srtR r) s ts)), some (Lv.val (encS (runP r s ts))), some (Lv.val (encX (.co (q : Nat) x))), none, some (Lv.val (dueX (.ok s'))), some (Lv.val (.tup [.str "", dvD C_Derivation C_Grammar (srtR r) s (ts ++ [.co q x])])), none, none], ?_, ?_⟩
        · refine eqI_go ⟨_, rfl, iteN (show ¬ ((3 : Nat) : Int) = 2 by decide) ?_⟩
          refine ⟨⟨_, _, rfl, rfl⟩, trivial, 1, _, rfl, atI_nat (j := 1) rfl, trivial, 2, _, rfl, atI_nat (j := 2) rfl, rfl, srtR r, s, ts, ((q : Nat) : Int), x, rfl, d1.srt, by omega, ?_⟩
          rw [if_neg (by omega), se]
          rw [hx]
          rfl
        rintro ρ rfl
        refine ⟨fun ρ => ρ = [none, some (Lv.val (.bag p)), none, some (Lv.val (encR r)), some (Lv.val (encS s)), some (Lv.val (.lst (ts.map encP))), some (Lv.val (dvD C_Derivation C_Grammar (srtR r) s ts)), some (Lv.val (encS (runP r s ts))), some (Lv.val (encX (.co (q : Nat) x))), none, some (Lv.val (dueX (.ok s'))), some (Lv.val (.tup [.str "", dvD C_Derivation C_Grammar (srtR r) s (ts ++ [.co q x])])), none, none], ?_, ?_⟩
        · refine ⟨trivial, 0, _, rfl, atI_nat (j := 0) rfl, eqT_go ⟨_, rfl, iteQ (fun h => absurd rfl h) (fun _ => ?_)⟩⟩
          rfl
        rintro ρ rfl
        --Gcok
        refine ⟨trivial, 0, _, rfl, atI_nat (j := 0) rfl, eqT_go ⟨_, rfl, iteY rfl ?_⟩⟩
        refine ⟨trivial, 0, _, rfl, atI_nat (j := 0) rfl, eqT_go ⟨_, rfl, iteQ (fun h => absurd rfl h) (fun _ => ?_)⟩⟩
        refine ⟨trivial, 1, _, rfl, atI_nat (j := 1) rfl, ?_⟩
        refine ⟨by show 1 ≤ sizeLine; decide, ?_⟩
        refine addL_go (by rw [List.length_map]; show _ + 1 ≤ _; omega) ?_
        refine ⟨rfl, r, s, ts ++ [.co q x], by rw [List.map_append]; rfl, ⟨d1.snoc hp (by omega) (by omega), by simp only [List.length_append, List.length_singleton]; omega⟩, ?_⟩
        refine ⟨rfl, r, s, ts, rfl, ⟨d1, by omega⟩, ?_⟩
        dsimp only [dSkip]
        refine hn' _ ⟨hl, ?_⟩
        simp only [wipeD, merge, keepV, List.map_cons, List.map_nil, List.set_cons_zero, List.set_cons_succ, List.getElem?_cons_succ, List.getElem?_cons_zero]
      | range j => exact absurd rfl he
      | term j => exact absurd rfl he
      | unk z => exact absurd rfl he
      | nom j => exact absurd rfl he
  rintro ρ rfl
  refine ⟨fun ρ => ρ = [none, none, none, none, none, none, none, none, none, none, none, none, some (Lv.val (dvD C_Derivation C_Grammar g1 ["a"] (prN 60))), none], ?_, ?_⟩
  · refine ⟨by show 2 ≤ sizeLine; decide, _, rfl, rfl, g1, rfl, g1_ok.size, ?_⟩
    rw [g1_ok.err]
    refine ⟨by show 1 ≤ sizeLine; decide, by show 2 ≤ sizeLine; decide, by show 3 ≤ sizeLine; decide, by show 2 ≤ sizeLine; decide, by decide, by decide, by show 2 * 60 ≤ sizeLine; decide, ?_⟩
    change spN 3 _ [grD C_Grammar (srtR g1), encS ["a"], .lst ((List.replicate 60 (pr2.map encP)).flatten)] _ _
    rw [prN_rep 60, g1_srt]
    exact deriv_go (q1_d (by decide)) rfl
  rintro ρ rfl
  refine ⟨fun ρ => ρ = [none, none, none, none, none, none, none, none, none, none, none, none, some (Lv.val (dvD C_Derivation C_Grammar g1 ["a"] (prN 60))), some (Lv.val (.lst [.tup [.str "limitexceeded", .int 120], .tup [.str "limitexceeded", .int 120]]))], ?_, ?_⟩
  · refine ⟨⟨_, _, rfl, rfl⟩, rfl, g1, ["a"], prN 60, -1, rfl, q1_d (by decide), by rw [prN_len]; decide, ?_⟩
    rw [if_pos (by rw [prN_len]; decide)]
    refine ans_one T.tr_LimitExceeded rfl rfl ?_
    refine ⟨⟨_, _, rfl, rfl⟩, rfl, g1, ["a"], prN 60, -1, "A", rfl, q1_d (by decide), by rw [prN_len]; decide, ?_⟩
    rw [if_pos (by rw [prN_len]; decide)]
    refine ans_one T.tr_LimitExceeded rfl rfl ?_
    exact ⟨by show 2 ≤ sizeLine; decide, rfl⟩
  rintro ρ rfl
  refine ⟨by show 2 ≤ sizeLine; decide, by show 1 ≤ sizeLine; decide, by decide, by decide, by show 1 * 2 ≤ sizeLine; decide, ?_⟩
  refine eqSelf_go (by decide +kernel) (by decide +kernel) rfl ?_
  rfl

end
theorem all_mk {l : PySem.W.OpenLaw} {w : World} {K : PySem.W.Frag} {h : Heap} {mg : Str → Option Value} {fa f0 f1 f2 f3 f4 f5 f6 f7 f8 f9 f10 f11 f12 f13 f14 f15 f16 f17 f18 f19 f20 f21 f22 f23 f24 f25 f26 f27 f28 f29 f30 f31 f32 f33 f34 f35 f36 f37 f38 f39 f40 f41 C_Derivation C_Grammar C_InvalidName C_InvalidRule C_InvalidSequence C_InvalidStep C_LimitExceeded C_NoMatch C_OutOfRange C_TerminalSymbol C_UnknownSymbol C_DuplicateName C_UnknownUser C_MissingWeight C_RuleMismatch C_StepFailed C_StepInUse C_InvalidPath C_InvalidPoint C_Blocked C_InvalidFile C_SunderError C_NotFound i_InvalidName i_InvalidRule i_InvalidSequence i_InvalidStep i_LimitExceeded i_NoMatch i_OutOfRange i_TerminalSymbol i_UnknownSymbol f_try cL PL : Addr} (X : K.In h) (G : h.Ns mainGlobals mg) (hfa : mg "law" = some (.ref fa)) (own : LamX.OwnTab K fa h) {eL : Value} {ddL : Option Addr} {vsL : List Value} {slL : Array (Option Value)}
    {od0 an0 od1 an1 od2 an2 od3 an3 od4 an4 od5 an5 od6 an6 od7 an7 od8 an8 od9 an9 od10 an10 od11 an11 od12 an12 od13 an13 od14 an14 od15 an15 od16 an16 od17 an17 od18 an18 od19 an19 od20 an20 od21 an21 od22 an22 od23 an23 od24 an24 od25 an25 od26 an26 od27 an27 od28 an28 od29 an29 od30 an30 od31 an31 od32 an32 od33 an33 od34 an34 od35 an35 od36 an36 od37 an37 od38 an38 od39 an39 od40 an40 od41 an41 od_InvalidName an_InvalidName od_InvalidRule an_InvalidRule od_InvalidSequence an_InvalidSequence od_InvalidStep an_InvalidStep od_LimitExceeded an_LimitExceeded od_NoMatch an_NoMatch od_OutOfRange an_OutOfRange od_TerminalSymbol an_TerminalSymbol od_UnknownSymbol an_UnknownSymbol od_try an_try : Option Addr} {sl0 sl1 sl2 sl3 sl4 sl5 sl6 sl7 sl8 sl9 sl10 sl11 sl12 sl13 sl14 sl15 sl16 sl17 sl18 sl19 sl20 sl21 sl22 sl23 sl24 sl25 sl26 sl27 sl28 sl29 sl30 sl31 sl32 sl33 sl34 sl35 sl36 sl37 sl38 sl39 sl40 sl41 sl_InvalidName sl_InvalidRule sl_InvalidSequence sl_InvalidStep sl_LimitExceeded sl_NoMatch sl_OutOfRange sl_TerminalSymbol sl_UnknownSymbol sl_try : Array (Option Value)} {oc0 kV0 dc0 pm0 cd0 ct0 oc1 kV1 dc1 pm1 cd1 ct1 oc2 kV2 dc2 pm2 cd2 ct2 oc3 kV3 dc3 pm3 cd3 ct3 oc4 kV4 dc4 pm4 cd4 ct4 oc5 kV5 dc5 pm5 cd5 ct5 oc6 kV6 dc6 pm6 cd6 ct6 oc7 kV7 dc7 pm7 cd7 ct7 oc8 kV8 dc8 pm8 cd8 ct8 oc9 kV9 dc9 pm9 cd9 ct9 oc10 kV10 dc10 pm10 cd10 ct10 oc11 kV11 dc11 pm11 cd11 ct11 oc12 kV12 dc12 pm12 cd12 ct12 oc13 kV13 dc13 pm13 cd13 ct13 oc14 kV14 dc14 pm14 cd14 ct14 oc15 kV15 dc15 pm15 cd15 ct15 oc16 kV16 dc16 pm16 cd16 ct16 oc17 kV17 dc17 pm17 cd17 ct17 oc18 kV18 dc18 pm18 cd18 ct18 oc19 kV19 dc19 pm19 cd19 ct19 oc20 kV20 dc20 pm20 cd20 ct20 oc21 kV21 dc21 pm21 cd21 ct21 oc22 kV22 dc22 pm22 cd22 ct22 oc23 kV23 dc23 pm23 cd23 ct23 oc24 kV24 dc24 pm24 cd24 ct24 oc25 kV25 dc25 pm25 cd25 ct25 oc26 kV26 dc26 pm26 cd26 ct26 oc27 kV27 dc27 pm27 cd27 ct27 oc28 kV28 dc28 pm28 cd28 ct28 oc29 kV29 dc29 pm29 cd29 ct29 oc30 kV30 dc30 pm30 cd30 ct30 oc31 kV31 dc31 pm31 cd31 ct31 oc32 kV32 dc32 pm32 cd32 ct32 oc33 kV33 dc33 pm33 cd33 ct33 oc34 kV34 dc34 pm34 cd34 ct34 oc35 kV35 dc35 pm35 cd35 ct35 oc36 kV36 dc36 pm36 cd36 ct36 oc37 kV37 dc37 pm37 cd37 ct37 oc38 kV38 dc38 pm38 cd38 ct38 oc39 kV39 dc39 pm39 cd39 ct39 oc40 kV40 dc40 pm40 cd40 ct40 oc41 kV41 dc41 pm41 ct41 oc_InvalidName kV_InvalidName dc_InvalidName pm_InvalidName cd_InvalidName ct_InvalidName oc_InvalidRule kV_InvalidRule dc_InvalidRule pm_InvalidRule cd_InvalidRule ct_InvalidRule oc_InvalidSequence kV_InvalidSequence dc_InvalidSequence pm_InvalidSequence cd_InvalidSequence ct_InvalidSequence oc_InvalidStep kV_InvalidStep dc_InvalidStep pm_InvalidStep cd_InvalidStep ct_InvalidStep oc_LimitExceeded kV_LimitExceeded dc_LimitExceeded pm_LimitExceeded cd_LimitExceeded ct_LimitExceeded oc_NoMatch kV_NoMatch dc_NoMatch pm_NoMatch cd_NoMatch ct_NoMatch oc_OutOfRange kV_OutOfRange dc_OutOfRange pm_OutOfRange cd_OutOfRange ct_OutOfRange oc_TerminalSymbol kV_TerminalSymbol dc_TerminalSymbol pm_TerminalSymbol cd_TerminalSymbol ct_TerminalSymbol oc_UnknownSymbol kV_UnknownSymbol dc_UnknownSymbol pm_UnknownSymbol cd_UnknownSymbol ct_UnknownSymbol oc_try kV_try dc_try pm_try cd_try ct_try : Value} {t_LETTERS t_MAX_EXPANSION t_MAX_NAME t_MAX_STEPS t_MAX_SYMBOLS : Tok}
    {dT8 : Addr} {tc8 tv8 : Value} {td8 : Option Addr} {tn8 : Nat} {tl8 : Array (Option Value)}
    {nm_InvalidName q_InvalidName nm_InvalidRule q_InvalidRule nm_InvalidSequence q_InvalidSequence nm_InvalidStep q_InvalidStep nm_LimitExceeded q_LimitExceeded nm_NoMatch q_NoMatch nm_OutOfRange q_OutOfRange nm_TerminalSymbol q_TerminalSymbol nm_UnknownSymbol q_UnknownSymbol : Str} {N_InvalidName N_InvalidRule N_InvalidSequence N_InvalidStep N_LimitExceeded N_NoMatch N_OutOfRange N_TerminalSymbol N_UnknownSymbol : Addr} {bs_InvalidName bm_InvalidName sub_InvalidName bs_InvalidRule bm_InvalidRule sub_InvalidRule bs_InvalidSequence bm_InvalidSequence sub_InvalidSequence bs_InvalidStep bm_InvalidStep sub_InvalidStep bs_LimitExceeded bm_LimitExceeded sub_LimitExceeded bs_NoMatch bm_NoMatch sub_NoMatch bs_OutOfRange bm_OutOfRange sub_OutOfRange bs_TerminalSymbol bm_TerminalSymbol sub_TerminalSymbol bs_UnknownSymbol bm_UnknownSymbol sub_UnknownSymbol : List Value} {sn_InvalidName sn_InvalidRule sn_InvalidSequence sn_InvalidStep sn_LimitExceeded sn_NoMatch sn_OutOfRange sn_TerminalSymbol sn_UnknownSymbol : List Str} {ab_InvalidName ab_InvalidRule ab_InvalidSequence ab_InvalidStep ab_LimitExceeded ab_NoMatch ab_OutOfRange ab_TerminalSymbol ab_UnknownSymbol : Bool} {col_InvalidName col_InvalidRule col_InvalidSequence col_InvalidStep col_LimitExceeded col_NoMatch col_OutOfRange col_TerminalSymbol col_UnknownSymbol : Option Bool} {dd_InvalidName dd_InvalidRule dd_InvalidSequence dd_InvalidStep dd_LimitExceeded dd_NoMatch dd_OutOfRange dd_TerminalSymbol dd_UnknownSymbol : Option Addr} {m0_InvalidName m1_InvalidName m2_InvalidName m3_InvalidName m5_InvalidName m0_InvalidRule m1_InvalidRule m2_InvalidRule m3_InvalidRule m5_InvalidRule m0_InvalidSequence m1_InvalidSequence m2_InvalidSequence m3_InvalidSequence m5_InvalidSequence m0_InvalidStep m1_InvalidStep m2_InvalidStep m3_InvalidStep m5_InvalidStep m0_LimitExceeded m1_LimitExceeded m2_LimitExceeded m3_LimitExceeded m5_LimitExceeded m0_NoMatch m1_NoMatch m2_NoMatch m3_NoMatch m5_NoMatch m0_OutOfRange m1_OutOfRange m2_OutOfRange m3_OutOfRange m5_OutOfRange m0_TerminalSymbol m1_TerminalSymbol m2_TerminalSymbol m3_TerminalSymbol m5_TerminalSymbol m0_UnknownSymbol m1_UnknownSymbol m2_UnknownSymbol m3_UnknownSymbol m5_UnknownSymbol : Option Value}
    (aC_Derivation : PySem.W.nsIn K mainGlobals "Derivation" = some (some (.ref C_Derivation)))
    (aC_Grammar : PySem.W.nsIn K mainGlobals "Grammar" = some (some (.ref C_Grammar)))
    (a0 : PySem.W.findIn K (.ref C_Grammar) "rules" = some (some (.ref f0)))
    (i0 : PySem.W.isFn K (.ref f0) = true)
    (l0 : K.lookup f0 = some ⟨oc0, od0, .func (PySem.W.fnOf "rules" "Grammar.rules" (defArgs sGrammar_rules) (defBody sGrammar_rules) (defScope sGrammar_rules) .none kV0 dc0 pm0 an0 cd0 ct0), sl0⟩)
    (c0 : PySem.W.codeIn K cd0 "Grammar.rules" = true)
    (k0 : PySem.W.keepIn K (.ref f0) = true)
    (a1 : PySem.W.nsIn K mainGlobals "check_sequence" = some (some (.ref f1)))
    (l1 : K.lookup f1 = some ⟨oc1, od1, .func (PySem.W.fnOf "check_sequence" "check_sequence" (defArgs scheck_sequence) (defBody scheck_sequence) (defScope scheck_sequence) .none kV1 dc1 pm1 an1 cd1 ct1), sl1⟩)
    (c1 : PySem.W.codeIn K cd1 "check_sequence" = true)
    (k1 : PySem.W.keepIn K (.ref f1) = true)
    (a2 : PySem.W.nsIn K mainGlobals "check_step" = some (some (.ref f2)))
    (l2 : K.lookup f2 = some ⟨oc2, od2, .func (PySem.W.fnOf "check_step" "check_step" (defArgs scheck_step) (defBody scheck_step) (defScope scheck_step) .none kV2 dc2 pm2 an2 cd2 ct2), sl2⟩)
    (c2 : PySem.W.codeIn K cd2 "check_step" = true)
    (k2 : PySem.W.keepIn K (.ref f2) = true)
    (a3 : PySem.W.findIn K (.ref C_Grammar) "expansion" = some (some (.ref f3)))
    (i3 : PySem.W.isFn K (.ref f3) = true)
    (l3 : K.lookup f3 = some ⟨oc3, od3, .func (PySem.W.fnOf "expansion" "Grammar.expansion" (defArgs sGrammar_expansion) (defBody sGrammar_expansion) (defScope sGrammar_expansion) .none kV3 dc3 pm3 an3 cd3 ct3), sl3⟩)
    (c3 : PySem.W.codeIn K cd3 "Grammar.expansion" = true)
    (k3 : PySem.W.keepIn K (.ref f3) = true)
    (a4 : PySem.W.nsIn K mainGlobals "check_position" = some (some (.ref f4)))
    (l4 : K.lookup f4 = some ⟨oc4, od4, .func (PySem.W.fnOf "check_position" "check_position" (defArgs scheck_position) (defBody scheck_position) (defScope scheck_position) .none kV4 dc4 pm4 an4 cd4 ct4), sl4⟩)
    (c4 : PySem.W.codeIn K cd4 "check_position" = true)
    (k4 : PySem.W.keepIn K (.ref f4) = true)
    (a5 : PySem.W.nsIn K mainGlobals "contract_at" = some (some (.ref f5)))
    (l5 : K.lookup f5 = some ⟨oc5, od5, .func (PySem.W.fnOf "contract_at" "contract_at" (defArgs scontract_at) (defBody scontract_at) (defScope scontract_at) .none kV5 dc5 pm5 an5 cd5 ct5), sl5⟩)
    (c5 : PySem.W.codeIn K cd5 "contract_at" = true)
    (k5 : PySem.W.keepIn K (.ref f5) = true)
    (a6 : PySem.W.nsIn K mainGlobals "expand_at" = some (some (.ref f6)))
    (l6 : K.lookup f6 = some ⟨oc6, od6, .func (PySem.W.fnOf "expand_at" "expand_at" (defArgs sexpand_at) (defBody sexpand_at) (defScope sexpand_at) .none kV6 dc6 pm6 an6 cd6 ct6), sl6⟩)
    (c6 : PySem.W.codeIn K cd6 "expand_at" = true)
    (k6 : PySem.W.keepIn K (.ref f6) = true)
    (a7 : PySem.W.nsIn K mainGlobals "sequence_after" = some (some (.ref f7)))
    (l7 : K.lookup f7 = some ⟨oc7, od7, .func (PySem.W.fnOf "sequence_after" "sequence_after" (defArgs ssequence_after) (defBody ssequence_after) (defScope ssequence_after) .none kV7 dc7 pm7 an7 cd7 ct7), sl7⟩)
    (c7 : PySem.W.codeIn K cd7 "sequence_after" = true)
    (k7 : PySem.W.keepIn K (.ref f7) = true)
    (a8 : PySem.W.findIn K (.ref C_Derivation) "__init__" = some (some (.ref f8)))
    (i8 : PySem.W.isFn K (.ref f8) = true)
    (l8 : K.lookup f8 = some ⟨oc8, od8, .func (PySem.W.fnOf "__init__" "Derivation.__init__" (defArgs sDerivation_init) (defBody sDerivation_init) (defScope sDerivation_init) (.ref dT8) kV8 dc8 pm8 an8 cd8 ct8), sl8⟩)
    (lT8 : K.lookup dT8 = some ⟨tc8, td8, .seq #[tv8] tn8, tl8⟩)
    (c8 : PySem.W.codeIn K cd8 "Derivation.__init__" = true)
    (k8 : PySem.W.keepIn K (.ref f8) = true)
    (a9 : PySem.W.findIn K (.ref C_Derivation) "contracted" = some (some (.ref f9)))
    (i9 : PySem.W.isFn K (.ref f9) = true)
    (l9 : K.lookup f9 = some ⟨oc9, od9, .func (PySem.W.fnOf "contracted" "Derivation.contracted" (defArgs sDerivation_contracted) (defBody sDerivation_contracted) (defScope sDerivation_contracted) .none kV9 dc9 pm9 an9 cd9 ct9), sl9⟩)
    (c9 : PySem.W.codeIn K cd9 "Derivation.contracted" = true)
    (k9 : PySem.W.keepIn K (.ref f9) = true)
    (a10 : PySem.W.findIn K (.ref C_Derivation) "expanded" = some (some (.ref f10)))
    (i10 : PySem.W.isFn K (.ref f10) = true)
    (l10 : K.lookup f10 = some ⟨oc10, od10, .func (PySem.W.fnOf "expanded" "Derivation.expanded" (defArgs sDerivation_expanded) (defBody sDerivation_expanded) (defScope sDerivation_expanded) .none kV10 dc10 pm10 an10 cd10 ct10), sl10⟩)
    (c10 : PySem.W.codeIn K cd10 "Derivation.expanded" = true)
    (k10 : PySem.W.keepIn K (.ref f10) = true)
    (a11 : PySem.W.nsIn K mainGlobals "is_name" = some (some (.ref f11)))
    (l11 : K.lookup f11 = some ⟨oc11, od11, .func (PySem.W.fnOf "is_name" "is_name" (defArgs sis_name) (defBody sis_name) (defScope sis_name) .none kV11 dc11 pm11 an11 cd11 ct11), sl11⟩)
    (c11 : PySem.W.codeIn K cd11 "is_name" = true)
    (k11 : PySem.W.keepIn K (.ref f11) = true)
    (a12 : PySem.W.nsIn K mainGlobals "is_rule" = some (some (.ref f12)))
    (l12 : K.lookup f12 = some ⟨oc12, od12, .func (PySem.W.fnOf "is_rule" "is_rule" (defArgs sis_rule) (defBody sis_rule) (defScope sis_rule) .none kV12 dc12 pm12 an12 cd12 ct12), sl12⟩)
    (c12 : PySem.W.codeIn K cd12 "is_rule" = true)
    (k12 : PySem.W.keepIn K (.ref f12) = true)
    (a13 : PySem.W.findIn K (.ref C_Grammar) "__init__" = some (some (.ref f13)))
    (i13 : PySem.W.isFn K (.ref f13) = true)
    (l13 : K.lookup f13 = some ⟨oc13, od13, .func (PySem.W.fnOf "__init__" "Grammar.__init__" (defArgs sGrammar_init) (defBody sGrammar_init) (defScope sGrammar_init) .none kV13 dc13 pm13 an13 cd13 ct13), sl13⟩)
    (c13 : PySem.W.codeIn K cd13 "Grammar.__init__" = true)
    (k13 : PySem.W.keepIn K (.ref f13) = true)
    (a14 : PySem.W.nsIn K mainGlobals "_law_pull" = some (some (.ref f14)))
    (l14 : K.lookup f14 = some ⟨oc14, od14, .func (PySem.W.fnOf "_law_pull" "_law_pull" (defArgs s_law_pull) (defBody s_law_pull) (defScope s_law_pull) .none kV14 dc14 pm14 an14 cd14 ct14), sl14⟩)
    (c14 : PySem.W.codeIn K cd14 "_law_pull" = true)
    (k14 : PySem.W.keepIn K (.ref f14) = true)
    (a15 : PySem.W.nsIn K mainGlobals "_law_of" = some (some (.ref f15)))
    (l15 : K.lookup f15 = some ⟨oc15, od15, .func (PySem.W.fnOf "_law_of" "_law_of" (defArgs s_law_of) (defBody s_law_of) (defScope s_law_of) .none kV15 dc15 pm15 an15 cd15 ct15), sl15⟩)
    (c15 : PySem.W.codeIn K cd15 "_law_of" = true)
    (k15 : PySem.W.keepIn K (.ref f15) = true)
    (a16 : PySem.W.nsIn K mainGlobals "_law_possible" = some (some (.ref f16)))
    (l16 : K.lookup f16 = some ⟨oc16, od16, .func (PySem.W.fnOf "_law_possible" "_law_possible" (defArgs s_law_possible) (defBody s_law_possible) (defScope s_law_possible) .none kV16 dc16 pm16 an16 cd16 ct16), sl16⟩)
    (c16 : PySem.W.codeIn K cd16 "_law_possible" = true)
    (k16 : PySem.W.keepIn K (.ref f16) = true)
    (a17 : PySem.W.nsIn K mainGlobals "_law_any_step" = some (some (.ref f17)))
    (l17 : K.lookup f17 = some ⟨oc17, od17, .func (PySem.W.fnOf "_law_any_step" "_law_any_step" (defArgs s_law_any_step) (defBody s_law_any_step) (defScope s_law_any_step) .none kV17 dc17 pm17 an17 cd17 ct17), sl17⟩)
    (c17 : PySem.W.codeIn K cd17 "_law_any_step" = true)
    (k17 : PySem.W.keepIn K (.ref f17) = true)
    (a18 : PySem.W.nsIn K mainGlobals "_law_bag" = some (some (.ref f18)))
    (l18 : K.lookup f18 = some ⟨oc18, od18, .func (PySem.W.fnOf "_law_bag" "_law_bag" (defArgs s_law_bag) (defBody s_law_bag) (defScope s_law_bag) .none kV18 dc18 pm18 an18 cd18 ct18), sl18⟩)
    (c18 : PySem.W.codeIn K cd18 "_law_bag" = true)
    (k18 : PySem.W.keepIn K (.ref f18) = true)
    (a19 : PySem.W.nsIn K mainGlobals "_law_derivation" = some (some (.ref f19)))
    (l19 : K.lookup f19 = some ⟨oc19, od19, .func (PySem.W.fnOf "_law_derivation" "_law_derivation" (defArgs s_law_derivation) (defBody s_law_derivation) (defScope s_law_derivation) .none kV19 dc19 pm19 an19 cd19 ct19), sl19⟩)
    (c19 : PySem.W.codeIn K cd19 "_law_derivation" = true)
    (k19 : PySem.W.keepIn K (.ref f19) = true)
    (a20 : PySem.W.nsIn K mainGlobals "_law_names" = some (some (.ref f20)))
    (l20 : K.lookup f20 = some ⟨oc20, od20, .func (PySem.W.fnOf "_law_names" "_law_names" (defArgs s_law_names) (defBody s_law_names) (defScope s_law_names) .none kV20 dc20 pm20 an20 cd20 ct20), sl20⟩)
    (c20 : PySem.W.codeIn K cd20 "_law_names" = true)
    (k20 : PySem.W.keepIn K (.ref f20) = true)
    (a21 : PySem.W.nsIn K mainGlobals "_law_rules" = some (some (.ref f21)))
    (l21 : K.lookup f21 = some ⟨oc21, od21, .func (PySem.W.fnOf "_law_rules" "_law_rules" (defArgs s_law_rules) (defBody s_law_rules) (defScope s_law_rules) .none kV21 dc21 pm21 an21 cd21 ct21), sl21⟩)
    (c21 : PySem.W.codeIn K cd21 "_law_rules" = true)
    (k21 : PySem.W.keepIn K (.ref f21) = true)
    (a22 : PySem.W.nsIn K mainGlobals "_law_sequence" = some (some (.ref f22)))
    (l22 : K.lookup f22 = some ⟨oc22, od22, .func (PySem.W.fnOf "_law_sequence" "_law_sequence" (defArgs s_law_sequence) (defBody s_law_sequence) (defScope s_law_sequence) .none kV22 dc22 pm22 an22 cd22 ct22), sl22⟩)
    (c22 : PySem.W.codeIn K cd22 "_law_sequence" = true)
    (k22 : PySem.W.keepIn K (.ref f22) = true)
    (a23 : PySem.W.nsIn K mainGlobals "_law_after" = some (some (.ref f23)))
    (l23 : K.lookup f23 = some ⟨oc23, od23, .func (PySem.W.fnOf "_law_after" "_law_after" (defArgs s_law_after) (defBody s_law_after) (defScope s_law_after) .none kV23 dc23 pm23 an23 cd23 ct23), sl23⟩)
    (c23 : PySem.W.codeIn K cd23 "_law_after" = true)
    (k23 : PySem.W.keepIn K (.ref f23) = true)
    (a24 : PySem.W.nsIn K mainGlobals "_law_steps" = some (some (.ref f24)))
    (l24 : K.lookup f24 = some ⟨oc24, od24, .func (PySem.W.fnOf "_law_steps" "_law_steps" (defArgs s_law_steps) (defBody s_law_steps) (defScope s_law_steps) .none kV24 dc24 pm24 an24 cd24 ct24), sl24⟩)
    (c24 : PySem.W.codeIn K cd24 "_law_steps" = true)
    (k24 : PySem.W.keepIn K (.ref f24) = true)
    (a25 : PySem.W.nsIn K mainGlobals "_law_drawn" = some (some (.ref f25)))
    (l25 : K.lookup f25 = some ⟨oc25, od25, .func (PySem.W.fnOf "_law_drawn" "_law_drawn" (defArgs s_law_drawn) (defBody s_law_drawn) (defScope s_law_drawn) .none kV25 dc25 pm25 an25 cd25 ct25), sl25⟩)
    (c25 : PySem.W.codeIn K cd25 "_law_drawn" = true)
    (k25 : PySem.W.keepIn K (.ref f25) = true)
    (a26 : PySem.W.nsIn K mainGlobals "_law_end" = some (some (.ref f26)))
    (l26 : K.lookup f26 = some ⟨oc26, od26, .func (PySem.W.fnOf "_law_end" "_law_end" (defArgs s_law_end) (defBody s_law_end) (defScope s_law_end) .none kV26 dc26 pm26 an26 cd26 ct26), sl26⟩)
    (c26 : PySem.W.codeIn K cd26 "_law_end" = true)
    (k26 : PySem.W.keepIn K (.ref f26) = true)
    (a27 : PySem.W.findIn K (.ref C_Derivation) "end" = some (some (.ref f27)))
    (i27 : PySem.W.isFn K (.ref f27) = true)
    (l27 : K.lookup f27 = some ⟨oc27, od27, .func (PySem.W.fnOf "end" "Derivation.end" (defArgs sDerivation_end) (defBody sDerivation_end) (defScope sDerivation_end) .none kV27 dc27 pm27 an27 cd27 ct27), sl27⟩)
    (c27 : PySem.W.codeIn K cd27 "Derivation.end" = true)
    (k27 : PySem.W.keepIn K (.ref f27) = true)
    (a28 : PySem.W.findIn K (.ref C_Derivation) "grammar" = some (some (.ref f28)))
    (i28 : PySem.W.isFn K (.ref f28) = true)
    (l28 : K.lookup f28 = some ⟨oc28, od28, .func (PySem.W.fnOf "grammar" "Derivation.grammar" (defArgs sDerivation_grammar) (defBody sDerivation_grammar) (defScope sDerivation_grammar) .none kV28 dc28 pm28 an28 cd28 ct28), sl28⟩)
    (c28 : PySem.W.codeIn K cd28 "Derivation.grammar" = true)
    (k28 : PySem.W.keepIn K (.ref f28) = true)
    (a29 : PySem.W.findIn K (.ref C_Derivation) "__len__" = some (some (.ref f29)))
    (i29 : PySem.W.isFn K (.ref f29) = true)
    (l29 : K.lookup f29 = some ⟨oc29, od29, .func (PySem.W.fnOf "__len__" "Derivation.__len__" (defArgs sDerivation_len) (defBody sDerivation_len) (defScope sDerivation_len) .none kV29 dc29 pm29 an29 cd29 ct29), sl29⟩)
    (c29 : PySem.W.codeIn K cd29 "Derivation.__len__" = true)
    (k29 : PySem.W.keepIn K (.ref f29) = true)
    (a30 : PySem.W.findIn K (.ref C_Derivation) "__repr__" = some (some (.ref f30)))
    (i30 : PySem.W.isFn K (.ref f30) = true)
    (l30 : K.lookup f30 = some ⟨oc30, od30, .func (PySem.W.fnOf "__repr__" "Derivation.__repr__" (defArgs sDerivation_repr) (defBody sDerivation_repr) (defScope sDerivation_repr) .none kV30 dc30 pm30 an30 cd30 ct30), sl30⟩)
    (c30 : PySem.W.codeIn K cd30 "Derivation.__repr__" = true)
    (k30 : PySem.W.keepIn K (.ref f30) = true)
    (a31 : PySem.W.findIn K (.ref C_Derivation) "sequences" = some (some (.ref f31)))
    (i31 : PySem.W.isFn K (.ref f31) = true)
    (l31 : K.lookup f31 = some ⟨oc31, od31, .func (PySem.W.fnOf "sequences" "Derivation.sequences" (defArgs sDerivation_sequences) (defBody sDerivation_sequences) (defScope sDerivation_sequences) .none kV31 dc31 pm31 an31 cd31 ct31), sl31⟩)
    (c31 : PySem.W.codeIn K cd31 "Derivation.sequences" = true)
    (k31 : PySem.W.keepIn K (.ref f31) = true)
    (a32 : PySem.W.findIn K (.ref C_Derivation) "start" = some (some (.ref f32)))
    (i32 : PySem.W.isFn K (.ref f32) = true)
    (l32 : K.lookup f32 = some ⟨oc32, od32, .func (PySem.W.fnOf "start" "Derivation.start" (defArgs sDerivation_start) (defBody sDerivation_start) (defScope sDerivation_start) .none kV32 dc32 pm32 an32 cd32 ct32), sl32⟩)
    (c32 : PySem.W.codeIn K cd32 "Derivation.start" = true)
    (k32 : PySem.W.keepIn K (.ref f32) = true)
    (a33 : PySem.W.findIn K (.ref C_Derivation) "steps" = some (some (.ref f33)))
    (i33 : PySem.W.isFn K (.ref f33) = true)
    (l33 : K.lookup f33 = some ⟨oc33, od33, .func (PySem.W.fnOf "steps" "Derivation.steps" (defArgs sDerivation_steps) (defBody sDerivation_steps) (defScope sDerivation_steps) .none kV33 dc33 pm33 an33 cd33 ct33), sl33⟩)
    (c33 : PySem.W.codeIn K cd33 "Derivation.steps" = true)
    (k33 : PySem.W.keepIn K (.ref f33) = true)
    (a34 : PySem.W.nsIn K mainGlobals "sequence_text" = some (some (.ref f34)))
    (l34 : K.lookup f34 = some ⟨oc34, od34, .func (PySem.W.fnOf "sequence_text" "sequence_text" (defArgs ssequence_text) (defBody ssequence_text) (defScope ssequence_text) .none kV34 dc34 pm34 an34 cd34 ct34), sl34⟩)
    (c34 : PySem.W.codeIn K cd34 "sequence_text" = true)
    (k34 : PySem.W.keepIn K (.ref f34) = true)
    (a35 : PySem.W.nsIn K mainGlobals "step_text" = some (some (.ref f35)))
    (l35 : K.lookup f35 = some ⟨oc35, od35, .func (PySem.W.fnOf "step_text" "step_text" (defArgs sstep_text) (defBody sstep_text) (defScope sstep_text) .none kV35 dc35 pm35 an35 cd35 ct35), sl35⟩)
    (c35 : PySem.W.codeIn K cd35 "step_text" = true)
    (k35 : PySem.W.keepIn K (.ref f35) = true)
    (a36 : PySem.W.findIn K (.ref C_Derivation) "__str__" = some (some (.ref f36)))
    (i36 : PySem.W.isFn K (.ref f36) = true)
    (l36 : K.lookup f36 = some ⟨oc36, od36, .func (PySem.W.fnOf "__str__" "Derivation.__str__" (defArgs sDerivation_str) (defBody sDerivation_str) (defScope sDerivation_str) .none kV36 dc36 pm36 an36 cd36 ct36), sl36⟩)
    (c36 : PySem.W.codeIn K cd36 "Derivation.__str__" = true)
    (k36 : PySem.W.keepIn K (.ref f36) = true)
    (a37 : PySem.W.findIn K (.ref C_Grammar) "__eq__" = some (some (.ref f37)))
    (i37 : PySem.W.isFn K (.ref f37) = true)
    (l37 : K.lookup f37 = some ⟨oc37, od37, .func (PySem.W.fnOf "__eq__" "Grammar.__eq__" (defArgs sGrammar_eq) (defBody sGrammar_eq) (defScope sGrammar_eq) .none kV37 dc37 pm37 an37 cd37 ct37), sl37⟩)
    (c37 : PySem.W.codeIn K cd37 "Grammar.__eq__" = true)
    (k37 : PySem.W.keepIn K (.ref f37) = true)
    (a38 : PySem.W.nsIn K mainGlobals "_law_same" = some (some (.ref f38)))
    (l38 : K.lookup f38 = some ⟨oc38, od38, .func (PySem.W.fnOf "_law_same" "_law_same" (defArgs s_law_same) (defBody s_law_same) (defScope s_law_same) .none kV38 dc38 pm38 an38 cd38 ct38), sl38⟩)
    (c38 : PySem.W.codeIn K cd38 "_law_same" = true)
    (k38 : PySem.W.keepIn K (.ref f38) = true)
    (a39 : PySem.W.nsIn K mainGlobals "_law_is" = some (some (.ref f39)))
    (l39 : K.lookup f39 = some ⟨oc39, od39, .func (PySem.W.fnOf "_law_is" "_law_is" (defArgs s_law_is) (defBody s_law_is) (defScope s_law_is) .none kV39 dc39 pm39 an39 cd39 ct39), sl39⟩)
    (c39 : PySem.W.codeIn K cd39 "_law_is" = true)
    (k39 : PySem.W.keepIn K (.ref f39) = true)
    (a40 : PySem.W.nsIn K mainGlobals "_law_step_error" = some (some (.ref f40)))
    (l40 : K.lookup f40 = some ⟨oc40, od40, .func (PySem.W.fnOf "_law_step_error" "_law_step_error" (defArgs s_law_step_error) (defBody s_law_step_error) (defScope s_law_step_error) .none kV40 dc40 pm40 an40 cd40 ct40), sl40⟩)
    (c40 : PySem.W.codeIn K cd40 "_law_step_error" = true)
    (k40 : PySem.W.keepIn K (.ref f40) = true)
    (a41 : PySem.W.nsIn K mainGlobals "law" = some (some (.ref f41)))
    (l41 : K.lookup f41 = some ⟨oc41, od41, .func (PySem.W.fnOf "law" "law" (defArgs slaw) (defBody slaw) (defScope slaw) .none kV41 dc41 pm41 an41 (.ref cL) ct41), sl41⟩)
    (c41 : PySem.W.codeIn K (.ref cL) "law" = true)
    (k41 : PySem.W.keepIn K (.ref f41) = true)
    (pg_Derivation : PySem.W.plainGet K C_Derivation Str.empty = true)
    (hd_Derivation : PySem.W.hasDictIn K C_Derivation = true)
    (po_Derivation : PySem.W.plainOver K C_Derivation = true)
    (sa_Derivation : PySem.W.findIn K (.ref C_Derivation) "__setattr__" = some (some (.builtin "object.__setattr__")))
    (mk_Derivation : PySem.W.makesIn K C_Derivation = true)
    (kc_Derivation : PySem.W.keepIn K (.ref C_Derivation) = true)
    (pg_Grammar : PySem.W.plainGet K C_Grammar Str.empty = true)
    (hd_Grammar : PySem.W.hasDictIn K C_Grammar = true)
    (po_Grammar : PySem.W.plainOver K C_Grammar = true)
    (sa_Grammar : PySem.W.findIn K (.ref C_Grammar) "__setattr__" = some (some (.builtin "object.__setattr__")))
    (mk_Grammar : PySem.W.makesIn K C_Grammar = true)
    (kc_Grammar : PySem.W.keepIn K (.ref C_Grammar) = true)
    (nf_Derivation_actions : PySem.W.findIn K (.ref C_Derivation) "actions" = some none)
    (nf_Derivation_base : PySem.W.findIn K (.ref C_Derivation) "base" = some none)
    (nf_Derivation_states : PySem.W.findIn K (.ref C_Derivation) "states" = some none)
    (nf_Grammar_table : PySem.W.findIn K (.ref C_Grammar) "table" = some none)
    (ob_Derivation : PySem.W.mroIn K C_Derivation (.type "object") = some true)
    (ob_Grammar : PySem.W.mroIn K C_Grammar (.type "object") = some true)
    (ne_Grammar : PySem.W.findIn K (.ref C_Grammar) "__ne__" = some (some (.builtin "object.__ne__")))
    (ia_Derivation : PySem.W.findIn K (.ref C_Derivation) "__class__" = some (some (.builtin "object.__class__")))
    (ia_Grammar : PySem.W.findIn K (.ref C_Grammar) "__class__" = some (some (.builtin "object.__class__")))
    (ihn : PySem.W.specialIn K (.builtin "object.__class__") "__get__" = some (some (.builtin "getset_descriptor.__get__")))
    (iht : PySem.W.takesIn K (.builtin "object.__class__") = some true)
    (aC_InvalidName : PySem.W.nsIn K mainGlobals "InvalidName" = some (some (.ref C_InvalidName)))
    (xL_InvalidName : K.lookup C_InvalidName = some (excClassObj nm_InvalidName q_InvalidName C_InvalidName N_InvalidName bs_InvalidName bm_InvalidName true sn_InvalidName sub_InvalidName ab_InvalidName col_InvalidName dd_InvalidName m0_InvalidName m1_InvalidName m2_InvalidName m3_InvalidName m5_InvalidName "ValueError.__new__"))
    (xm_InvalidName : PySem.HandSPX.refsVE bm_InvalidName = true)
    (sa_InvalidName : PySem.W.findIn K (.ref C_InvalidName) "__setattr__" = some (some (.builtin "object.__setattr__")))
    (eC_InvalidName : PySem.W.subIn K (.ref C_InvalidName) (.type "BaseException") = some true)
    (tC_InvalidName : PySem.W.typeIn K (.ref C_InvalidName) = some (.type "type"))
    (kC_InvalidName : PySem.W.keepIn K (.ref C_InvalidName) = true)
    (nw_InvalidName : PySem.W.findIn K (.ref C_InvalidName) "word" = some none)
    (n_InvalidName_name : PySem.W.findIn K (.ref C_InvalidName) "name" = some none)
    (iC_InvalidName : PySem.W.findIn K (.ref C_InvalidName) "__init__" = some (some (.ref i_InvalidName)))
    (tI_InvalidName : PySem.W.typeIn K (.ref i_InvalidName) = some (.type "function"))
    (l_InvalidName : K.lookup i_InvalidName = some ⟨oc_InvalidName, od_InvalidName, .func (PySem.W.fnOf "__init__" "InvalidName.__init__" (defArgs sInvalidName) (defBody sInvalidName) (defScope sInvalidName) .none kV_InvalidName dc_InvalidName pm_InvalidName an_InvalidName cd_InvalidName ct_InvalidName), sl_InvalidName⟩)
    (c_InvalidName : PySem.W.codeIn K cd_InvalidName "InvalidName.__init__" = true)
    (k_InvalidName : PySem.W.keepIn K (.ref i_InvalidName) = true)
    (aC_InvalidRule : PySem.W.nsIn K mainGlobals "InvalidRule" = some (some (.ref C_InvalidRule)))
    (xL_InvalidRule : K.lookup C_InvalidRule = some (excClassObj nm_InvalidRule q_InvalidRule C_InvalidRule N_InvalidRule bs_InvalidRule bm_InvalidRule true sn_InvalidRule sub_InvalidRule ab_InvalidRule col_InvalidRule dd_InvalidRule m0_InvalidRule m1_InvalidRule m2_InvalidRule m3_InvalidRule m5_InvalidRule "ValueError.__new__"))
    (xm_InvalidRule : PySem.HandSPX.refsVE bm_InvalidRule = true)
    (sa_InvalidRule : PySem.W.findIn K (.ref C_InvalidRule) "__setattr__" = some (some (.builtin "object.__setattr__")))
    (eC_InvalidRule : PySem.W.subIn K (.ref C_InvalidRule) (.type "BaseException") = some true)
    (tC_InvalidRule : PySem.W.typeIn K (.ref C_InvalidRule) = some (.type "type"))
    (kC_InvalidRule : PySem.W.keepIn K (.ref C_InvalidRule) = true)
    (nw_InvalidRule : PySem.W.findIn K (.ref C_InvalidRule) "word" = some none)
    (n_InvalidRule_symbol : PySem.W.findIn K (.ref C_InvalidRule) "symbol" = some none)
    (iC_InvalidRule : PySem.W.findIn K (.ref C_InvalidRule) "__init__" = some (some (.ref i_InvalidRule)))
    (tI_InvalidRule : PySem.W.typeIn K (.ref i_InvalidRule) = some (.type "function"))
    (l_InvalidRule : K.lookup i_InvalidRule = some ⟨oc_InvalidRule, od_InvalidRule, .func (PySem.W.fnOf "__init__" "InvalidRule.__init__" (defArgs sInvalidRule) (defBody sInvalidRule) (defScope sInvalidRule) .none kV_InvalidRule dc_InvalidRule pm_InvalidRule an_InvalidRule cd_InvalidRule ct_InvalidRule), sl_InvalidRule⟩)
    (c_InvalidRule : PySem.W.codeIn K cd_InvalidRule "InvalidRule.__init__" = true)
    (k_InvalidRule : PySem.W.keepIn K (.ref i_InvalidRule) = true)
    (aC_InvalidSequence : PySem.W.nsIn K mainGlobals "InvalidSequence" = some (some (.ref C_InvalidSequence)))
    (xL_InvalidSequence : K.lookup C_InvalidSequence = some (excClassObj nm_InvalidSequence q_InvalidSequence C_InvalidSequence N_InvalidSequence bs_InvalidSequence bm_InvalidSequence true sn_InvalidSequence sub_InvalidSequence ab_InvalidSequence col_InvalidSequence dd_InvalidSequence m0_InvalidSequence m1_InvalidSequence m2_InvalidSequence m3_InvalidSequence m5_InvalidSequence "ValueError.__new__"))
    (xm_InvalidSequence : PySem.HandSPX.refsVE bm_InvalidSequence = true)
    (sa_InvalidSequence : PySem.W.findIn K (.ref C_InvalidSequence) "__setattr__" = some (some (.builtin "object.__setattr__")))
    (eC_InvalidSequence : PySem.W.subIn K (.ref C_InvalidSequence) (.type "BaseException") = some true)
    (tC_InvalidSequence : PySem.W.typeIn K (.ref C_InvalidSequence) = some (.type "type"))
    (kC_InvalidSequence : PySem.W.keepIn K (.ref C_InvalidSequence) = true)
    (nw_InvalidSequence : PySem.W.findIn K (.ref C_InvalidSequence) "word" = some none)
    (n_InvalidSequence_position : PySem.W.findIn K (.ref C_InvalidSequence) "position" = some none)
    (iC_InvalidSequence : PySem.W.findIn K (.ref C_InvalidSequence) "__init__" = some (some (.ref i_InvalidSequence)))
    (tI_InvalidSequence : PySem.W.typeIn K (.ref i_InvalidSequence) = some (.type "function"))
    (l_InvalidSequence : K.lookup i_InvalidSequence = some ⟨oc_InvalidSequence, od_InvalidSequence, .func (PySem.W.fnOf "__init__" "InvalidSequence.__init__" (defArgs sInvalidSequence) (defBody sInvalidSequence) (defScope sInvalidSequence) .none kV_InvalidSequence dc_InvalidSequence pm_InvalidSequence an_InvalidSequence cd_InvalidSequence ct_InvalidSequence), sl_InvalidSequence⟩)
    (c_InvalidSequence : PySem.W.codeIn K cd_InvalidSequence "InvalidSequence.__init__" = true)
    (k_InvalidSequence : PySem.W.keepIn K (.ref i_InvalidSequence) = true)
    (aC_InvalidStep : PySem.W.nsIn K mainGlobals "InvalidStep" = some (some (.ref C_InvalidStep)))
    (xL_InvalidStep : K.lookup C_InvalidStep = some (excClassObj nm_InvalidStep q_InvalidStep C_InvalidStep N_InvalidStep bs_InvalidStep bm_InvalidStep true sn_InvalidStep sub_InvalidStep ab_InvalidStep col_InvalidStep dd_InvalidStep m0_InvalidStep m1_InvalidStep m2_InvalidStep m3_InvalidStep m5_InvalidStep "ValueError.__new__"))
    (xm_InvalidStep : PySem.HandSPX.refsVE bm_InvalidStep = true)
    (sa_InvalidStep : PySem.W.findIn K (.ref C_InvalidStep) "__setattr__" = some (some (.builtin "object.__setattr__")))
    (eC_InvalidStep : PySem.W.subIn K (.ref C_InvalidStep) (.type "BaseException") = some true)
    (tC_InvalidStep : PySem.W.typeIn K (.ref C_InvalidStep) = some (.type "type"))
    (kC_InvalidStep : PySem.W.keepIn K (.ref C_InvalidStep) = true)
    (nw_InvalidStep : PySem.W.findIn K (.ref C_InvalidStep) "word" = some none)
    (iC_InvalidStep : PySem.W.findIn K (.ref C_InvalidStep) "__init__" = some (some (.ref i_InvalidStep)))
    (tI_InvalidStep : PySem.W.typeIn K (.ref i_InvalidStep) = some (.type "function"))
    (l_InvalidStep : K.lookup i_InvalidStep = some ⟨oc_InvalidStep, od_InvalidStep, .func (PySem.W.fnOf "__init__" "InvalidStep.__init__" (defArgs sInvalidStep) (defBody sInvalidStep) (defScope sInvalidStep) .none kV_InvalidStep dc_InvalidStep pm_InvalidStep an_InvalidStep cd_InvalidStep ct_InvalidStep), sl_InvalidStep⟩)
    (c_InvalidStep : PySem.W.codeIn K cd_InvalidStep "InvalidStep.__init__" = true)
    (k_InvalidStep : PySem.W.keepIn K (.ref i_InvalidStep) = true)
    (aC_LimitExceeded : PySem.W.nsIn K mainGlobals "LimitExceeded" = some (some (.ref C_LimitExceeded)))
    (xL_LimitExceeded : K.lookup C_LimitExceeded = some (excClassObj nm_LimitExceeded q_LimitExceeded C_LimitExceeded N_LimitExceeded bs_LimitExceeded bm_LimitExceeded true sn_LimitExceeded sub_LimitExceeded ab_LimitExceeded col_LimitExceeded dd_LimitExceeded m0_LimitExceeded m1_LimitExceeded m2_LimitExceeded m3_LimitExceeded m5_LimitExceeded "ValueError.__new__"))
    (xm_LimitExceeded : PySem.HandSPX.refsVE bm_LimitExceeded = true)
    (sa_LimitExceeded : PySem.W.findIn K (.ref C_LimitExceeded) "__setattr__" = some (some (.builtin "object.__setattr__")))
    (eC_LimitExceeded : PySem.W.subIn K (.ref C_LimitExceeded) (.type "BaseException") = some true)
    (tC_LimitExceeded : PySem.W.typeIn K (.ref C_LimitExceeded) = some (.type "type"))
    (kC_LimitExceeded : PySem.W.keepIn K (.ref C_LimitExceeded) = true)
    (nw_LimitExceeded : PySem.W.findIn K (.ref C_LimitExceeded) "word" = some none)
    (n_LimitExceeded_limit : PySem.W.findIn K (.ref C_LimitExceeded) "limit" = some none)
    (iC_LimitExceeded : PySem.W.findIn K (.ref C_LimitExceeded) "__init__" = some (some (.ref i_LimitExceeded)))
    (tI_LimitExceeded : PySem.W.typeIn K (.ref i_LimitExceeded) = some (.type "function"))
    (l_LimitExceeded : K.lookup i_LimitExceeded = some ⟨oc_LimitExceeded, od_LimitExceeded, .func (PySem.W.fnOf "__init__" "LimitExceeded.__init__" (defArgs sLimitExceeded) (defBody sLimitExceeded) (defScope sLimitExceeded) .none kV_LimitExceeded dc_LimitExceeded pm_LimitExceeded an_LimitExceeded cd_LimitExceeded ct_LimitExceeded), sl_LimitExceeded⟩)
    (c_LimitExceeded : PySem.W.codeIn K cd_LimitExceeded "LimitExceeded.__init__" = true)
    (k_LimitExceeded : PySem.W.keepIn K (.ref i_LimitExceeded) = true)
    (aC_NoMatch : PySem.W.nsIn K mainGlobals "NoMatch" = some (some (.ref C_NoMatch)))
    (xL_NoMatch : K.lookup C_NoMatch = some (excClassObj nm_NoMatch q_NoMatch C_NoMatch N_NoMatch bs_NoMatch bm_NoMatch true sn_NoMatch sub_NoMatch ab_NoMatch col_NoMatch dd_NoMatch m0_NoMatch m1_NoMatch m2_NoMatch m3_NoMatch m5_NoMatch "ValueError.__new__"))
    (xm_NoMatch : PySem.HandSPX.refsVE bm_NoMatch = true)
    (sa_NoMatch : PySem.W.findIn K (.ref C_NoMatch) "__setattr__" = some (some (.builtin "object.__setattr__")))
    (eC_NoMatch : PySem.W.subIn K (.ref C_NoMatch) (.type "BaseException") = some true)
    (tC_NoMatch : PySem.W.typeIn K (.ref C_NoMatch) = some (.type "type"))
    (kC_NoMatch : PySem.W.keepIn K (.ref C_NoMatch) = true)
    (nw_NoMatch : PySem.W.findIn K (.ref C_NoMatch) "word" = some none)
    (n_NoMatch_position : PySem.W.findIn K (.ref C_NoMatch) "position" = some none)
    (iC_NoMatch : PySem.W.findIn K (.ref C_NoMatch) "__init__" = some (some (.ref i_NoMatch)))
    (tI_NoMatch : PySem.W.typeIn K (.ref i_NoMatch) = some (.type "function"))
    (l_NoMatch : K.lookup i_NoMatch = some ⟨oc_NoMatch, od_NoMatch, .func (PySem.W.fnOf "__init__" "NoMatch.__init__" (defArgs sNoMatch) (defBody sNoMatch) (defScope sNoMatch) .none kV_NoMatch dc_NoMatch pm_NoMatch an_NoMatch cd_NoMatch ct_NoMatch), sl_NoMatch⟩)
    (c_NoMatch : PySem.W.codeIn K cd_NoMatch "NoMatch.__init__" = true)
    (k_NoMatch : PySem.W.keepIn K (.ref i_NoMatch) = true)
    (aC_OutOfRange : PySem.W.nsIn K mainGlobals "OutOfRange" = some (some (.ref C_OutOfRange)))
    (xL_OutOfRange : K.lookup C_OutOfRange = some (excClassObj nm_OutOfRange q_OutOfRange C_OutOfRange N_OutOfRange bs_OutOfRange bm_OutOfRange true sn_OutOfRange sub_OutOfRange ab_OutOfRange col_OutOfRange dd_OutOfRange m0_OutOfRange m1_OutOfRange m2_OutOfRange m3_OutOfRange m5_OutOfRange "LookupError.__new__"))
    (xm_OutOfRange : EX.refsLE bm_OutOfRange = true)
    (sa_OutOfRange : PySem.W.findIn K (.ref C_OutOfRange) "__setattr__" = some (some (.builtin "object.__setattr__")))
    (eC_OutOfRange : PySem.W.subIn K (.ref C_OutOfRange) (.type "BaseException") = some true)
    (tC_OutOfRange : PySem.W.typeIn K (.ref C_OutOfRange) = some (.type "type"))
    (kC_OutOfRange : PySem.W.keepIn K (.ref C_OutOfRange) = true)
    (nw_OutOfRange : PySem.W.findIn K (.ref C_OutOfRange) "word" = some none)
    (n_OutOfRange_index : PySem.W.findIn K (.ref C_OutOfRange) "index" = some none)
    (iC_OutOfRange : PySem.W.findIn K (.ref C_OutOfRange) "__init__" = some (some (.ref i_OutOfRange)))
    (tI_OutOfRange : PySem.W.typeIn K (.ref i_OutOfRange) = some (.type "function"))
    (l_OutOfRange : K.lookup i_OutOfRange = some ⟨oc_OutOfRange, od_OutOfRange, .func (PySem.W.fnOf "__init__" "OutOfRange.__init__" (defArgs sOutOfRange) (defBody sOutOfRange) (defScope sOutOfRange) .none kV_OutOfRange dc_OutOfRange pm_OutOfRange an_OutOfRange cd_OutOfRange ct_OutOfRange), sl_OutOfRange⟩)
    (c_OutOfRange : PySem.W.codeIn K cd_OutOfRange "OutOfRange.__init__" = true)
    (k_OutOfRange : PySem.W.keepIn K (.ref i_OutOfRange) = true)
    (aC_TerminalSymbol : PySem.W.nsIn K mainGlobals "TerminalSymbol" = some (some (.ref C_TerminalSymbol)))
    (xL_TerminalSymbol : K.lookup C_TerminalSymbol = some (excClassObj nm_TerminalSymbol q_TerminalSymbol C_TerminalSymbol N_TerminalSymbol bs_TerminalSymbol bm_TerminalSymbol true sn_TerminalSymbol sub_TerminalSymbol ab_TerminalSymbol col_TerminalSymbol dd_TerminalSymbol m0_TerminalSymbol m1_TerminalSymbol m2_TerminalSymbol m3_TerminalSymbol m5_TerminalSymbol "ValueError.__new__"))
    (xm_TerminalSymbol : PySem.HandSPX.refsVE bm_TerminalSymbol = true)
    (sa_TerminalSymbol : PySem.W.findIn K (.ref C_TerminalSymbol) "__setattr__" = some (some (.builtin "object.__setattr__")))
    (eC_TerminalSymbol : PySem.W.subIn K (.ref C_TerminalSymbol) (.type "BaseException") = some true)
    (tC_TerminalSymbol : PySem.W.typeIn K (.ref C_TerminalSymbol) = some (.type "type"))
    (kC_TerminalSymbol : PySem.W.keepIn K (.ref C_TerminalSymbol) = true)
    (nw_TerminalSymbol : PySem.W.findIn K (.ref C_TerminalSymbol) "word" = some none)
    (n_TerminalSymbol_position : PySem.W.findIn K (.ref C_TerminalSymbol) "position" = some none)
    (iC_TerminalSymbol : PySem.W.findIn K (.ref C_TerminalSymbol) "__init__" = some (some (.ref i_TerminalSymbol)))
    (tI_TerminalSymbol : PySem.W.typeIn K (.ref i_TerminalSymbol) = some (.type "function"))
    (l_TerminalSymbol : K.lookup i_TerminalSymbol = some ⟨oc_TerminalSymbol, od_TerminalSymbol, .func (PySem.W.fnOf "__init__" "TerminalSymbol.__init__" (defArgs sTerminalSymbol) (defBody sTerminalSymbol) (defScope sTerminalSymbol) .none kV_TerminalSymbol dc_TerminalSymbol pm_TerminalSymbol an_TerminalSymbol cd_TerminalSymbol ct_TerminalSymbol), sl_TerminalSymbol⟩)
    (c_TerminalSymbol : PySem.W.codeIn K cd_TerminalSymbol "TerminalSymbol.__init__" = true)
    (k_TerminalSymbol : PySem.W.keepIn K (.ref i_TerminalSymbol) = true)
    (aC_UnknownSymbol : PySem.W.nsIn K mainGlobals "UnknownSymbol" = some (some (.ref C_UnknownSymbol)))
    (xL_UnknownSymbol : K.lookup C_UnknownSymbol = some (excClassObj nm_UnknownSymbol q_UnknownSymbol C_UnknownSymbol N_UnknownSymbol bs_UnknownSymbol bm_UnknownSymbol true sn_UnknownSymbol sub_UnknownSymbol ab_UnknownSymbol col_UnknownSymbol dd_UnknownSymbol m0_UnknownSymbol m1_UnknownSymbol m2_UnknownSymbol m3_UnknownSymbol m5_UnknownSymbol "LookupError.__new__"))
    (xm_UnknownSymbol : EX.refsLE bm_UnknownSymbol = true)
    (sa_UnknownSymbol : PySem.W.findIn K (.ref C_UnknownSymbol) "__setattr__" = some (some (.builtin "object.__setattr__")))
    (eC_UnknownSymbol : PySem.W.subIn K (.ref C_UnknownSymbol) (.type "BaseException") = some true)
    (tC_UnknownSymbol : PySem.W.typeIn K (.ref C_UnknownSymbol) = some (.type "type"))
    (kC_UnknownSymbol : PySem.W.keepIn K (.ref C_UnknownSymbol) = true)
    (nw_UnknownSymbol : PySem.W.findIn K (.ref C_UnknownSymbol) "word" = some none)
    (n_UnknownSymbol_name : PySem.W.findIn K (.ref C_UnknownSymbol) "name" = some none)
    (iC_UnknownSymbol : PySem.W.findIn K (.ref C_UnknownSymbol) "__init__" = some (some (.ref i_UnknownSymbol)))
    (tI_UnknownSymbol : PySem.W.typeIn K (.ref i_UnknownSymbol) = some (.type "function"))
    (l_UnknownSymbol : K.lookup i_UnknownSymbol = some ⟨oc_UnknownSymbol, od_UnknownSymbol, .func (PySem.W.fnOf "__init__" "UnknownSymbol.__init__" (defArgs sUnknownSymbol) (defBody sUnknownSymbol) (defScope sUnknownSymbol) .none kV_UnknownSymbol dc_UnknownSymbol pm_UnknownSymbol an_UnknownSymbol cd_UnknownSymbol ct_UnknownSymbol), sl_UnknownSymbol⟩)
    (c_UnknownSymbol : PySem.W.codeIn K cd_UnknownSymbol "UnknownSymbol.__init__" = true)
    (k_UnknownSymbol : PySem.W.keepIn K (.ref i_UnknownSymbol) = true)
    (a_try : PySem.W.nsIn K mainGlobals "_law_try" = some (some (.ref f_try)))
    (l_try : K.lookup f_try = some ⟨oc_try, od_try, .func (PySem.W.fnOf "_law_try" "_law_try" (defArgs s_law_try) (defBody s_law_try) (defScope s_law_try) .none kV_try dc_try pm_try an_try cd_try ct_try), sl_try⟩)
    (c_try : PySem.W.codeIn K cd_try "_law_try" = true)
    (k_try : PySem.W.keepIn K (.ref f_try) = true)
    (ic_InvalidName : PySem.W.isClsIn K C_InvalidName = true)
    (aC_DuplicateName : PySem.W.nsIn K mainGlobals "DuplicateName" = some (some (.ref C_DuplicateName)))
    (eC_DuplicateName : PySem.W.subIn K (.ref C_DuplicateName) (.type "BaseException") = some true)
    (tC_DuplicateName : PySem.W.typeIn K (.ref C_DuplicateName) = some (.type "type"))
    (ic_DuplicateName : PySem.W.isClsIn K C_DuplicateName = true)
    (ic_UnknownSymbol : PySem.W.isClsIn K C_UnknownSymbol = true)
    (aC_UnknownUser : PySem.W.nsIn K mainGlobals "UnknownUser" = some (some (.ref C_UnknownUser)))
    (eC_UnknownUser : PySem.W.subIn K (.ref C_UnknownUser) (.type "BaseException") = some true)
    (tC_UnknownUser : PySem.W.typeIn K (.ref C_UnknownUser) = some (.type "type"))
    (ic_UnknownUser : PySem.W.isClsIn K C_UnknownUser = true)
    (ic_InvalidRule : PySem.W.isClsIn K C_InvalidRule = true)
    (aC_MissingWeight : PySem.W.nsIn K mainGlobals "MissingWeight" = some (some (.ref C_MissingWeight)))
    (eC_MissingWeight : PySem.W.subIn K (.ref C_MissingWeight) (.type "BaseException") = some true)
    (tC_MissingWeight : PySem.W.typeIn K (.ref C_MissingWeight) = some (.type "type"))
    (ic_MissingWeight : PySem.W.isClsIn K C_MissingWeight = true)
    (aC_RuleMismatch : PySem.W.nsIn K mainGlobals "RuleMismatch" = some (some (.ref C_RuleMismatch)))
    (eC_RuleMismatch : PySem.W.subIn K (.ref C_RuleMismatch) (.type "BaseException") = some true)
    (tC_RuleMismatch : PySem.W.typeIn K (.ref C_RuleMismatch) = some (.type "type"))
    (ic_RuleMismatch : PySem.W.isClsIn K C_RuleMismatch = true)
    (ic_InvalidSequence : PySem.W.isClsIn K C_InvalidSequence = true)
    (ic_TerminalSymbol : PySem.W.isClsIn K C_TerminalSymbol = true)
    (ic_NoMatch : PySem.W.isClsIn K C_NoMatch = true)
    (aC_StepFailed : PySem.W.nsIn K mainGlobals "StepFailed" = some (some (.ref C_StepFailed)))
    (eC_StepFailed : PySem.W.subIn K (.ref C_StepFailed) (.type "BaseException") = some true)
    (tC_StepFailed : PySem.W.typeIn K (.ref C_StepFailed) = some (.type "type"))
    (ic_StepFailed : PySem.W.isClsIn K C_StepFailed = true)
    (aC_StepInUse : PySem.W.nsIn K mainGlobals "StepInUse" = some (some (.ref C_StepInUse)))
    (eC_StepInUse : PySem.W.subIn K (.ref C_StepInUse) (.type "BaseException") = some true)
    (tC_StepInUse : PySem.W.typeIn K (.ref C_StepInUse) = some (.type "type"))
    (ic_StepInUse : PySem.W.isClsIn K C_StepInUse = true)
    (aC_InvalidPath : PySem.W.nsIn K mainGlobals "InvalidPath" = some (some (.ref C_InvalidPath)))
    (eC_InvalidPath : PySem.W.subIn K (.ref C_InvalidPath) (.type "BaseException") = some true)
    (tC_InvalidPath : PySem.W.typeIn K (.ref C_InvalidPath) = some (.type "type"))
    (ic_InvalidPath : PySem.W.isClsIn K C_InvalidPath = true)
    (aC_InvalidPoint : PySem.W.nsIn K mainGlobals "InvalidPoint" = some (some (.ref C_InvalidPoint)))
    (eC_InvalidPoint : PySem.W.subIn K (.ref C_InvalidPoint) (.type "BaseException") = some true)
    (tC_InvalidPoint : PySem.W.typeIn K (.ref C_InvalidPoint) = some (.type "type"))
    (ic_InvalidPoint : PySem.W.isClsIn K C_InvalidPoint = true)
    (ic_OutOfRange : PySem.W.isClsIn K C_OutOfRange = true)
    (ic_LimitExceeded : PySem.W.isClsIn K C_LimitExceeded = true)
    (aC_Blocked : PySem.W.nsIn K mainGlobals "Blocked" = some (some (.ref C_Blocked)))
    (eC_Blocked : PySem.W.subIn K (.ref C_Blocked) (.type "BaseException") = some true)
    (tC_Blocked : PySem.W.typeIn K (.ref C_Blocked) = some (.type "type"))
    (ic_Blocked : PySem.W.isClsIn K C_Blocked = true)
    (aC_InvalidFile : PySem.W.nsIn K mainGlobals "InvalidFile" = some (some (.ref C_InvalidFile)))
    (eC_InvalidFile : PySem.W.subIn K (.ref C_InvalidFile) (.type "BaseException") = some true)
    (tC_InvalidFile : PySem.W.typeIn K (.ref C_InvalidFile) = some (.type "type"))
    (ic_InvalidFile : PySem.W.isClsIn K C_InvalidFile = true)
    (aC_SunderError : PySem.W.nsIn K mainGlobals "SunderError" = some (some (.ref C_SunderError)))
    (eC_SunderError : PySem.W.subIn K (.ref C_SunderError) (.type "BaseException") = some true)
    (tC_SunderError : PySem.W.typeIn K (.ref C_SunderError) = some (.type "type"))
    (ic_SunderError : PySem.W.isClsIn K C_SunderError = true)
    (aC_NotFound : PySem.W.nsIn K mainGlobals "NotFound" = some (some (.ref C_NotFound)))
    (eC_NotFound : PySem.W.subIn K (.ref C_NotFound) (.type "BaseException") = some true)
    (tC_NotFound : PySem.W.typeIn K (.ref C_NotFound) = some (.type "type"))
    (ic_NotFound : PySem.W.isClsIn K C_NotFound = true)
    (ga_InvalidName : PySem.W.findIn K (.ref C_InvalidName) "__getattribute__" = some (some (.builtin "BaseException.__getattribute__")))
    (gg_InvalidName : PySem.W.findIn K (.ref C_InvalidName) "__getattr__" = some none)
    (hd_InvalidName : PySem.W.hasDictIn K C_InvalidName = true)
    (sb_InvalidName_InvalidName : PySem.W.subIn K (.ref C_InvalidName) (.ref C_InvalidName) = some true)
    (sb_InvalidName_DuplicateName : PySem.W.subIn K (.ref C_InvalidName) (.ref C_DuplicateName) = some false)
    (sb_InvalidName_UnknownSymbol : PySem.W.subIn K (.ref C_InvalidName) (.ref C_UnknownSymbol) = some false)
    (sb_InvalidName_UnknownUser : PySem.W.subIn K (.ref C_InvalidName) (.ref C_UnknownUser) = some false)
    (ga_InvalidRule : PySem.W.findIn K (.ref C_InvalidRule) "__getattribute__" = some (some (.builtin "BaseException.__getattribute__")))
    (gg_InvalidRule : PySem.W.findIn K (.ref C_InvalidRule) "__getattr__" = some none)
    (hd_InvalidRule : PySem.W.hasDictIn K C_InvalidRule = true)
    (sb_InvalidRule_InvalidName : PySem.W.subIn K (.ref C_InvalidRule) (.ref C_InvalidName) = some false)
    (sb_InvalidRule_DuplicateName : PySem.W.subIn K (.ref C_InvalidRule) (.ref C_DuplicateName) = some false)
    (sb_InvalidRule_UnknownSymbol : PySem.W.subIn K (.ref C_InvalidRule) (.ref C_UnknownSymbol) = some false)
    (sb_InvalidRule_UnknownUser : PySem.W.subIn K (.ref C_InvalidRule) (.ref C_UnknownUser) = some false)
    (sb_InvalidRule_InvalidRule : PySem.W.subIn K (.ref C_InvalidRule) (.ref C_InvalidRule) = some true)
    (sb_InvalidRule_MissingWeight : PySem.W.subIn K (.ref C_InvalidRule) (.ref C_MissingWeight) = some false)
    (sb_InvalidRule_RuleMismatch : PySem.W.subIn K (.ref C_InvalidRule) (.ref C_RuleMismatch) = some false)
    (ga_InvalidSequence : PySem.W.findIn K (.ref C_InvalidSequence) "__getattribute__" = some (some (.builtin "BaseException.__getattribute__")))
    (gg_InvalidSequence : PySem.W.findIn K (.ref C_InvalidSequence) "__getattr__" = some none)
    (hd_InvalidSequence : PySem.W.hasDictIn K C_InvalidSequence = true)
    (sb_InvalidSequence_InvalidName : PySem.W.subIn K (.ref C_InvalidSequence) (.ref C_InvalidName) = some false)
    (sb_InvalidSequence_DuplicateName : PySem.W.subIn K (.ref C_InvalidSequence) (.ref C_DuplicateName) = some false)
    (sb_InvalidSequence_UnknownSymbol : PySem.W.subIn K (.ref C_InvalidSequence) (.ref C_UnknownSymbol) = some false)
    (sb_InvalidSequence_UnknownUser : PySem.W.subIn K (.ref C_InvalidSequence) (.ref C_UnknownUser) = some false)
    (sb_InvalidSequence_InvalidRule : PySem.W.subIn K (.ref C_InvalidSequence) (.ref C_InvalidRule) = some false)
    (sb_InvalidSequence_MissingWeight : PySem.W.subIn K (.ref C_InvalidSequence) (.ref C_MissingWeight) = some false)
    (sb_InvalidSequence_RuleMismatch : PySem.W.subIn K (.ref C_InvalidSequence) (.ref C_RuleMismatch) = some false)
    (sb_InvalidSequence_InvalidSequence : PySem.W.subIn K (.ref C_InvalidSequence) (.ref C_InvalidSequence) = some true)
    (sb_InvalidSequence_TerminalSymbol : PySem.W.subIn K (.ref C_InvalidSequence) (.ref C_TerminalSymbol) = some false)
    (sb_InvalidSequence_NoMatch : PySem.W.subIn K (.ref C_InvalidSequence) (.ref C_NoMatch) = some false)
    (ga_InvalidStep : PySem.W.findIn K (.ref C_InvalidStep) "__getattribute__" = some (some (.builtin "BaseException.__getattribute__")))
    (gg_InvalidStep : PySem.W.findIn K (.ref C_InvalidStep) "__getattr__" = some none)
    (hd_InvalidStep : PySem.W.hasDictIn K C_InvalidStep = true)
    (sb_InvalidStep_InvalidName : PySem.W.subIn K (.ref C_InvalidStep) (.ref C_InvalidName) = some false)
    (sb_InvalidStep_DuplicateName : PySem.W.subIn K (.ref C_InvalidStep) (.ref C_DuplicateName) = some false)
    (sb_InvalidStep_UnknownSymbol : PySem.W.subIn K (.ref C_InvalidStep) (.ref C_UnknownSymbol) = some false)
    (sb_InvalidStep_UnknownUser : PySem.W.subIn K (.ref C_InvalidStep) (.ref C_UnknownUser) = some false)
    (sb_InvalidStep_InvalidRule : PySem.W.subIn K (.ref C_InvalidStep) (.ref C_InvalidRule) = some false)
    (sb_InvalidStep_MissingWeight : PySem.W.subIn K (.ref C_InvalidStep) (.ref C_MissingWeight) = some false)
    (sb_InvalidStep_RuleMismatch : PySem.W.subIn K (.ref C_InvalidStep) (.ref C_RuleMismatch) = some false)
    (sb_InvalidStep_InvalidSequence : PySem.W.subIn K (.ref C_InvalidStep) (.ref C_InvalidSequence) = some false)
    (sb_InvalidStep_TerminalSymbol : PySem.W.subIn K (.ref C_InvalidStep) (.ref C_TerminalSymbol) = some false)
    (sb_InvalidStep_NoMatch : PySem.W.subIn K (.ref C_InvalidStep) (.ref C_NoMatch) = some false)
    (sb_InvalidStep_StepFailed : PySem.W.subIn K (.ref C_InvalidStep) (.ref C_StepFailed) = some false)
    (sb_InvalidStep_StepInUse : PySem.W.subIn K (.ref C_InvalidStep) (.ref C_StepInUse) = some false)
    (sb_InvalidStep_InvalidPath : PySem.W.subIn K (.ref C_InvalidStep) (.ref C_InvalidPath) = some false)
    (sb_InvalidStep_InvalidPoint : PySem.W.subIn K (.ref C_InvalidStep) (.ref C_InvalidPoint) = some false)
    (sb_InvalidStep_OutOfRange : PySem.W.subIn K (.ref C_InvalidStep) (.ref C_OutOfRange) = some false)
    (sb_InvalidStep_LimitExceeded : PySem.W.subIn K (.ref C_InvalidStep) (.ref C_LimitExceeded) = some false)
    (sb_InvalidStep_Blocked : PySem.W.subIn K (.ref C_InvalidStep) (.ref C_Blocked) = some false)
    (sb_InvalidStep_InvalidFile : PySem.W.subIn K (.ref C_InvalidStep) (.ref C_InvalidFile) = some false)
    (sb_InvalidStep_SunderError : PySem.W.subIn K (.ref C_InvalidStep) (.ref C_SunderError) = some true)
    (sb_InvalidStep_NotFound : PySem.W.subIn K (.ref C_InvalidStep) (.ref C_NotFound) = some false)
    (ga_LimitExceeded : PySem.W.findIn K (.ref C_LimitExceeded) "__getattribute__" = some (some (.builtin "BaseException.__getattribute__")))
    (gg_LimitExceeded : PySem.W.findIn K (.ref C_LimitExceeded) "__getattr__" = some none)
    (hd_LimitExceeded : PySem.W.hasDictIn K C_LimitExceeded = true)
    (sb_LimitExceeded_InvalidName : PySem.W.subIn K (.ref C_LimitExceeded) (.ref C_InvalidName) = some false)
    (sb_LimitExceeded_DuplicateName : PySem.W.subIn K (.ref C_LimitExceeded) (.ref C_DuplicateName) = some false)
    (sb_LimitExceeded_UnknownSymbol : PySem.W.subIn K (.ref C_LimitExceeded) (.ref C_UnknownSymbol) = some false)
    (sb_LimitExceeded_UnknownUser : PySem.W.subIn K (.ref C_LimitExceeded) (.ref C_UnknownUser) = some false)
    (sb_LimitExceeded_InvalidRule : PySem.W.subIn K (.ref C_LimitExceeded) (.ref C_InvalidRule) = some false)
    (sb_LimitExceeded_MissingWeight : PySem.W.subIn K (.ref C_LimitExceeded) (.ref C_MissingWeight) = some false)
    (sb_LimitExceeded_RuleMismatch : PySem.W.subIn K (.ref C_LimitExceeded) (.ref C_RuleMismatch) = some false)
    (sb_LimitExceeded_InvalidSequence : PySem.W.subIn K (.ref C_LimitExceeded) (.ref C_InvalidSequence) = some false)
    (sb_LimitExceeded_TerminalSymbol : PySem.W.subIn K (.ref C_LimitExceeded) (.ref C_TerminalSymbol) = some false)
    (sb_LimitExceeded_NoMatch : PySem.W.subIn K (.ref C_LimitExceeded) (.ref C_NoMatch) = some false)
    (sb_LimitExceeded_StepFailed : PySem.W.subIn K (.ref C_LimitExceeded) (.ref C_StepFailed) = some false)
    (sb_LimitExceeded_StepInUse : PySem.W.subIn K (.ref C_LimitExceeded) (.ref C_StepInUse) = some false)
    (sb_LimitExceeded_InvalidPath : PySem.W.subIn K (.ref C_LimitExceeded) (.ref C_InvalidPath) = some false)
    (sb_LimitExceeded_InvalidPoint : PySem.W.subIn K (.ref C_LimitExceeded) (.ref C_InvalidPoint) = some false)
    (sb_LimitExceeded_OutOfRange : PySem.W.subIn K (.ref C_LimitExceeded) (.ref C_OutOfRange) = some false)
    (sb_LimitExceeded_LimitExceeded : PySem.W.subIn K (.ref C_LimitExceeded) (.ref C_LimitExceeded) = some true)
    (ga_NoMatch : PySem.W.findIn K (.ref C_NoMatch) "__getattribute__" = some (some (.builtin "BaseException.__getattribute__")))
    (gg_NoMatch : PySem.W.findIn K (.ref C_NoMatch) "__getattr__" = some none)
    (hd_NoMatch : PySem.W.hasDictIn K C_NoMatch = true)
    (sb_NoMatch_InvalidName : PySem.W.subIn K (.ref C_NoMatch) (.ref C_InvalidName) = some false)
    (sb_NoMatch_DuplicateName : PySem.W.subIn K (.ref C_NoMatch) (.ref C_DuplicateName) = some false)
    (sb_NoMatch_UnknownSymbol : PySem.W.subIn K (.ref C_NoMatch) (.ref C_UnknownSymbol) = some false)
    (sb_NoMatch_UnknownUser : PySem.W.subIn K (.ref C_NoMatch) (.ref C_UnknownUser) = some false)
    (sb_NoMatch_InvalidRule : PySem.W.subIn K (.ref C_NoMatch) (.ref C_InvalidRule) = some false)
    (sb_NoMatch_MissingWeight : PySem.W.subIn K (.ref C_NoMatch) (.ref C_MissingWeight) = some false)
    (sb_NoMatch_RuleMismatch : PySem.W.subIn K (.ref C_NoMatch) (.ref C_RuleMismatch) = some false)
    (sb_NoMatch_InvalidSequence : PySem.W.subIn K (.ref C_NoMatch) (.ref C_InvalidSequence) = some false)
    (sb_NoMatch_TerminalSymbol : PySem.W.subIn K (.ref C_NoMatch) (.ref C_TerminalSymbol) = some false)
    (sb_NoMatch_NoMatch : PySem.W.subIn K (.ref C_NoMatch) (.ref C_NoMatch) = some true)
    (ga_OutOfRange : PySem.W.findIn K (.ref C_OutOfRange) "__getattribute__" = some (some (.builtin "BaseException.__getattribute__")))
    (gg_OutOfRange : PySem.W.findIn K (.ref C_OutOfRange) "__getattr__" = some none)
    (hd_OutOfRange : PySem.W.hasDictIn K C_OutOfRange = true)
    (sb_OutOfRange_InvalidName : PySem.W.subIn K (.ref C_OutOfRange) (.ref C_InvalidName) = some false)
    (sb_OutOfRange_DuplicateName : PySem.W.subIn K (.ref C_OutOfRange) (.ref C_DuplicateName) = some false)
    (sb_OutOfRange_UnknownSymbol : PySem.W.subIn K (.ref C_OutOfRange) (.ref C_UnknownSymbol) = some false)
    (sb_OutOfRange_UnknownUser : PySem.W.subIn K (.ref C_OutOfRange) (.ref C_UnknownUser) = some false)
    (sb_OutOfRange_InvalidRule : PySem.W.subIn K (.ref C_OutOfRange) (.ref C_InvalidRule) = some false)
    (sb_OutOfRange_MissingWeight : PySem.W.subIn K (.ref C_OutOfRange) (.ref C_MissingWeight) = some false)
    (sb_OutOfRange_RuleMismatch : PySem.W.subIn K (.ref C_OutOfRange) (.ref C_RuleMismatch) = some false)
    (sb_OutOfRange_InvalidSequence : PySem.W.subIn K (.ref C_OutOfRange) (.ref C_InvalidSequence) = some false)
    (sb_OutOfRange_TerminalSymbol : PySem.W.subIn K (.ref C_OutOfRange) (.ref C_TerminalSymbol) = some false)
    (sb_OutOfRange_NoMatch : PySem.W.subIn K (.ref C_OutOfRange) (.ref C_NoMatch) = some false)
    (sb_OutOfRange_StepFailed : PySem.W.subIn K (.ref C_OutOfRange) (.ref C_StepFailed) = some false)
    (sb_OutOfRange_StepInUse : PySem.W.subIn K (.ref C_OutOfRange) (.ref C_StepInUse) = some false)
    (sb_OutOfRange_InvalidPath : PySem.W.subIn K (.ref C_OutOfRange) (.ref C_InvalidPath) = some false)
    (sb_OutOfRange_InvalidPoint : PySem.W.subIn K (.ref C_OutOfRange) (.ref C_InvalidPoint) = some false)
    (sb_OutOfRange_OutOfRange : PySem.W.subIn K (.ref C_OutOfRange) (.ref C_OutOfRange) = some true)
    (ga_TerminalSymbol : PySem.W.findIn K (.ref C_TerminalSymbol) "__getattribute__" = some (some (.builtin "BaseException.__getattribute__")))
    (gg_TerminalSymbol : PySem.W.findIn K (.ref C_TerminalSymbol) "__getattr__" = some none)
    (hd_TerminalSymbol : PySem.W.hasDictIn K C_TerminalSymbol = true)
    (sb_TerminalSymbol_InvalidName : PySem.W.subIn K (.ref C_TerminalSymbol) (.ref C_InvalidName) = some false)
    (sb_TerminalSymbol_DuplicateName : PySem.W.subIn K (.ref C_TerminalSymbol) (.ref C_DuplicateName) = some false)
    (sb_TerminalSymbol_UnknownSymbol : PySem.W.subIn K (.ref C_TerminalSymbol) (.ref C_UnknownSymbol) = some false)
    (sb_TerminalSymbol_UnknownUser : PySem.W.subIn K (.ref C_TerminalSymbol) (.ref C_UnknownUser) = some false)
    (sb_TerminalSymbol_InvalidRule : PySem.W.subIn K (.ref C_TerminalSymbol) (.ref C_InvalidRule) = some false)
    (sb_TerminalSymbol_MissingWeight : PySem.W.subIn K (.ref C_TerminalSymbol) (.ref C_MissingWeight) = some false)
    (sb_TerminalSymbol_RuleMismatch : PySem.W.subIn K (.ref C_TerminalSymbol) (.ref C_RuleMismatch) = some false)
    (sb_TerminalSymbol_InvalidSequence : PySem.W.subIn K (.ref C_TerminalSymbol) (.ref C_InvalidSequence) = some false)
    (sb_TerminalSymbol_TerminalSymbol : PySem.W.subIn K (.ref C_TerminalSymbol) (.ref C_TerminalSymbol) = some true)
    (sb_TerminalSymbol_NoMatch : PySem.W.subIn K (.ref C_TerminalSymbol) (.ref C_NoMatch) = some false)
    (ga_UnknownSymbol : PySem.W.findIn K (.ref C_UnknownSymbol) "__getattribute__" = some (some (.builtin "BaseException.__getattribute__")))
    (gg_UnknownSymbol : PySem.W.findIn K (.ref C_UnknownSymbol) "__getattr__" = some none)
    (hd_UnknownSymbol : PySem.W.hasDictIn K C_UnknownSymbol = true)
    (sb_UnknownSymbol_InvalidName : PySem.W.subIn K (.ref C_UnknownSymbol) (.ref C_InvalidName) = some false)
    (sb_UnknownSymbol_DuplicateName : PySem.W.subIn K (.ref C_UnknownSymbol) (.ref C_DuplicateName) = some false)
    (sb_UnknownSymbol_UnknownSymbol : PySem.W.subIn K (.ref C_UnknownSymbol) (.ref C_UnknownSymbol) = some true)
    (sb_UnknownSymbol_UnknownUser : PySem.W.subIn K (.ref C_UnknownSymbol) (.ref C_UnknownUser) = some false)
    (lc : K.lookup cL = some ⟨eL, ddL, .fields vsL.toArray, slL⟩)
    (hv : vsL[11]? = some (.ref PL))
    (hn : K.lookup PL = none)
    (hd : PySem.W.codeHdIn K cL PL = true)
    (z_all : PySem.W.nsIn K mainGlobals "all" = some none)
    (z_bool : PySem.W.nsIn K mainGlobals "bool" = some none)
    (z_dict : PySem.W.nsIn K mainGlobals "dict" = some none)
    (z_enumerate : PySem.W.nsIn K mainGlobals "enumerate" = some none)
    (z_int : PySem.W.nsIn K mainGlobals "int" = some none)
    (z_isinstance : PySem.W.nsIn K mainGlobals "isinstance" = some none)
    (z_len : PySem.W.nsIn K mainGlobals "len" = some none)
    (z_list : PySem.W.nsIn K mainGlobals "list" = some none)
    (z_range : PySem.W.nsIn K mainGlobals "range" = some none)
    (z_repr : PySem.W.nsIn K mainGlobals "repr" = some none)
    (z_sorted : PySem.W.nsIn K mainGlobals "sorted" = some none)
    (z_str : PySem.W.nsIn K mainGlobals "str" = some none)
    (z_tuple : PySem.W.nsIn K mainGlobals "tuple" = some none)
    (y_LETTERS : PySem.W.nsIn K mainGlobals "LETTERS" = some (some (.str "abcdefghijklmnopqrstuvwxyz" t_LETTERS)))
    (y_MAX_EXPANSION : PySem.W.nsIn K mainGlobals "MAX_EXPANSION" = some (some (.int 4 t_MAX_EXPANSION)))
    (y_MAX_NAME : PySem.W.nsIn K mainGlobals "MAX_NAME" = some (some (.int 6 t_MAX_NAME)))
    (y_MAX_STEPS : PySem.W.nsIn K mainGlobals "MAX_STEPS" = some (some (.int 120 t_MAX_STEPS)))
    (y_MAX_SYMBOLS : PySem.W.nsIn K mainGlobals "MAX_SYMBOLS" = some (some (.int 8 t_MAX_SYMBOLS)))
    : LamX.LawAtS l w K CX0 13 63 "_law_script" mg fa h := by
  have e := hfa.symm.trans (PySem.W.mg_of X G a41)
  cases e
  refine lawAt_mk X own l41 rfl rfl lc hv hn hd (fun s v => .of_eq (bilaw kV41 dc41 pm41 an41 (.ref cL) ct41 [v] rfl)) (fun base _ _ TB => ?_)
  have T : Txt l.prog w K mg base C_Derivation C_Grammar C_InvalidName C_InvalidRule C_InvalidSequence C_InvalidStep C_LimitExceeded C_NoMatch C_OutOfRange C_TerminalSymbol C_UnknownSymbol C_DuplicateName C_UnknownUser C_MissingWeight C_RuleMismatch C_StepFailed C_StepInUse C_InvalidPath C_InvalidPoint C_Blocked C_InvalidFile C_SunderError C_NotFound := ⟨⟨_, _, fun_mk (st := sGrammar_rules) l0 c0 k0, ⟨a0, i0, k0⟩⟩,
    ⟨_, _, fun_mk (st := scheck_sequence) l1 c1 k1, PySem.W.mg_of X G a1⟩,
    ⟨_, _, fun_mk (st := scheck_step) l2 c2 k2, PySem.W.mg_of X G a2⟩,
    ⟨_, _, fun_mk (st := sGrammar_expansion) l3 c3 k3, ⟨a3, i3, k3⟩⟩,
    ⟨_, _, fun_mk (st := scheck_position) l4 c4 k4, PySem.W.mg_of X G a4⟩,
    ⟨_, _, fun_mk (st := scontract_at) l5 c5 k5, PySem.W.mg_of X G a5⟩,
    ⟨_, _, fun_mk (st := sexpand_at) l6 c6 k6, PySem.W.mg_of X G a6⟩,
    ⟨_, _, fun_mk (st := ssequence_after) l7 c7 k7, PySem.W.mg_of X G a7⟩,
    ⟨PySem.W.mg_of X G aC_Derivation, _, _, funV_mk (st := sDerivation_init) l8 c8 lT8 rfl, ⟨mk_Derivation, a8, i8, kc_Derivation⟩⟩,
    ⟨_, _, fun_mk (st := sDerivation_contracted) l9 c9 k9, ⟨a9, i9, k9⟩⟩,
    ⟨_, _, fun_mk (st := sDerivation_expanded) l10 c10 k10, ⟨a10, i10, k10⟩⟩,
    ⟨_, _, fun_mk (st := sis_name) l11 c11 k11, PySem.W.mg_of X G a11⟩,
    ⟨_, _, fun_mk (st := sis_rule) l12 c12 k12, PySem.W.mg_of X G a12⟩,
    ⟨PySem.W.mg_of X G aC_Grammar, _, _, fun_mk (st := sGrammar_init) l13 c13 k13, ⟨mk_Grammar, a13, i13, kc_Grammar⟩⟩,
    ⟨_, _, fun_mk (st := s_law_pull) l14 c14 k14, PySem.W.mg_of X G a14⟩,
    ⟨_, _, fun_mk (st := s_law_of) l15 c15 k15, PySem.W.mg_of X G a15⟩,
    ⟨_, _, fun_mk (st := s_law_possible) l16 c16 k16, PySem.W.mg_of X G a16⟩,
    ⟨_, _, fun_mk (st := s_law_any_step) l17 c17 k17, PySem.W.mg_of X G a17⟩,
    ⟨_, _, fun_mk (st := s_law_bag) l18 c18 k18, PySem.W.mg_of X G a18⟩,
    ⟨_, _, fun_mk (st := s_law_derivation) l19 c19 k19, PySem.W.mg_of X G a19⟩,
    ⟨_, _, fun_mk (st := s_law_names) l20 c20 k20, PySem.W.mg_of X G a20⟩,
    ⟨_, _, fun_mk (st := s_law_rules) l21 c21 k21, PySem.W.mg_of X G a21⟩,
    ⟨_, _, fun_mk (st := s_law_sequence) l22 c22 k22, PySem.W.mg_of X G a22⟩,
    ⟨_, _, fun_mk (st := s_law_after) l23 c23 k23, PySem.W.mg_of X G a23⟩,
    ⟨_, _, fun_mk (st := s_law_steps) l24 c24 k24, PySem.W.mg_of X G a24⟩,
    ⟨_, _, fun_mk (st := s_law_drawn) l25 c25 k25, PySem.W.mg_of X G a25⟩,
    ⟨_, _, fun_mk (st := s_law_end) l26 c26 k26, PySem.W.mg_of X G a26⟩,
    ⟨_, _, fun_mk (st := sDerivation_end) l27 c27 k27, ⟨a27, i27, k27⟩⟩,
    ⟨_, _, fun_mk (st := sDerivation_grammar) l28 c28 k28, ⟨a28, i28, k28⟩⟩,
    ⟨_, _, fun_mk (st := sDerivation_len) l29 c29 k29, ⟨a29, i29, k29⟩⟩,
    ⟨_, _, fun_mk (st := sDerivation_repr) l30 c30 k30, ⟨a30, i30, k30⟩⟩,
    ⟨_, _, fun_mk (st := sDerivation_sequences) l31 c31 k31, ⟨a31, i31, k31⟩⟩,
    ⟨_, _, fun_mk (st := sDerivation_start) l32 c32 k32, ⟨a32, i32, k32⟩⟩,
    ⟨_, _, fun_mk (st := sDerivation_steps) l33 c33 k33, ⟨a33, i33, k33⟩⟩,
    ⟨_, _, fun_mk (st := ssequence_text) l34 c34 k34, PySem.W.mg_of X G a34⟩,
    ⟨_, _, fun_mk (st := sstep_text) l35 c35 k35, PySem.W.mg_of X G a35⟩,
    ⟨_, _, fun_mk (st := sDerivation_str) l36 c36 k36, ⟨a36, i36, k36⟩⟩,
    ⟨_, _, fun_mk (st := sGrammar_eq) l37 c37 k37, ⟨a37, i37, k37⟩⟩,
    ⟨_, _, fun_mk (st := s_law_same) l38 c38 k38, PySem.W.mg_of X G a38⟩,
    ⟨_, _, fun_mk (st := s_law_is) l39 c39 k39, PySem.W.mg_of X G a39⟩,
    ⟨_, _, fun_mk (st := s_law_step_error) l40 c40 k40, PySem.W.mg_of X G a40⟩,
    ⟨pg_Derivation, hd_Derivation, po_Derivation, sa_Derivation⟩,
    ⟨pg_Grammar, hd_Grammar, po_Grammar, sa_Grammar⟩,
    nf_Derivation_actions,
    nf_Derivation_base,
    nf_Derivation_states,
    nf_Grammar_table,
    ⟨ob_Grammar, ne_Grammar⟩,
    ⟨⟨pg_Derivation, hd_Derivation, po_Derivation, sa_Derivation⟩, ia_Derivation, ihn, iht, ob_Derivation⟩,
    PySem.W.mg_of X G aC_Derivation,
    ⟨⟨pg_Grammar, hd_Grammar, po_Grammar, sa_Grammar⟩, ia_Grammar, ihn, iht, ob_Grammar⟩,
    PySem.W.mg_of X G aC_Grammar,
    erc1 (L2.OexC.a ⟨⟨nm_InvalidName, q_InvalidName, N_InvalidName, bs_InvalidName, bm_InvalidName, sn_InvalidName, sub_InvalidName, ab_InvalidName, col_InvalidName, dd_InvalidName, m0_InvalidName, m1_InvalidName, m2_InvalidName, m3_InvalidName, m5_InvalidName, xL_InvalidName, xm_InvalidName⟩, sa_InvalidName, eC_InvalidName, tC_InvalidName, kC_InvalidName⟩) nw_InvalidName n_InvalidName_name (PySem.W.mg_of X G aC_InvalidName) iC_InvalidName tI_InvalidName (fun_mk (st := sInvalidName) l_InvalidName c_InvalidName k_InvalidName) ⟨rfl, rfl, rfl, by decide +kernel, rfl, by decide +kernel, by decide +kernel⟩ (fun _ _ _ _ _ _ us hl => match us, hl with | [_, _], _ => rfl) (by rfl),
    erc1 (L2.OexC.a ⟨⟨nm_InvalidRule, q_InvalidRule, N_InvalidRule, bs_InvalidRule, bm_InvalidRule, sn_InvalidRule, sub_InvalidRule, ab_InvalidRule, col_InvalidRule, dd_InvalidRule, m0_InvalidRule, m1_InvalidRule, m2_InvalidRule, m3_InvalidRule, m5_InvalidRule, xL_InvalidRule, xm_InvalidRule⟩, sa_InvalidRule, eC_InvalidRule, tC_InvalidRule, kC_InvalidRule⟩) nw_InvalidRule n_InvalidRule_symbol (PySem.W.mg_of X G aC_InvalidRule) iC_InvalidRule tI_InvalidRule (fun_mk (st := sInvalidRule) l_InvalidRule c_InvalidRule k_InvalidRule) ⟨rfl, rfl, rfl, by decide +kernel, rfl, by decide +kernel, by decide +kernel⟩ (fun _ _ _ _ _ _ us hl => match us, hl with | [_, _], _ => rfl) (by rfl),
    erc1 (L2.OexC.a ⟨⟨nm_InvalidSequence, q_InvalidSequence, N_InvalidSequence, bs_InvalidSequence, bm_InvalidSequence, sn_InvalidSequence, sub_InvalidSequence, ab_InvalidSequence, col_InvalidSequence, dd_InvalidSequence, m0_InvalidSequence, m1_InvalidSequence, m2_InvalidSequence, m3_InvalidSequence, m5_InvalidSequence, xL_InvalidSequence, xm_InvalidSequence⟩, sa_InvalidSequence, eC_InvalidSequence, tC_InvalidSequence, kC_InvalidSequence⟩) nw_InvalidSequence n_InvalidSequence_position (PySem.W.mg_of X G aC_InvalidSequence) iC_InvalidSequence tI_InvalidSequence (fun_mk (st := sInvalidSequence) l_InvalidSequence c_InvalidSequence k_InvalidSequence) ⟨rfl, rfl, rfl, by decide +kernel, rfl, by decide +kernel, by decide +kernel⟩ (fun _ _ _ _ _ _ us hl => match us, hl with | [_, _], _ => rfl) (by rfl),
    erc0 (L2.OexC.a ⟨⟨nm_InvalidStep, q_InvalidStep, N_InvalidStep, bs_InvalidStep, bm_InvalidStep, sn_InvalidStep, sub_InvalidStep, ab_InvalidStep, col_InvalidStep, dd_InvalidStep, m0_InvalidStep, m1_InvalidStep, m2_InvalidStep, m3_InvalidStep, m5_InvalidStep, xL_InvalidStep, xm_InvalidStep⟩, sa_InvalidStep, eC_InvalidStep, tC_InvalidStep, kC_InvalidStep⟩) nw_InvalidStep (PySem.W.mg_of X G aC_InvalidStep) iC_InvalidStep tI_InvalidStep (fun_mk (st := sInvalidStep) l_InvalidStep c_InvalidStep k_InvalidStep) ⟨rfl, rfl, rfl, by decide +kernel, rfl, by decide +kernel, by decide +kernel⟩ (fun _ _ _ _ _ _ us hl => match us, hl with | [_], _ => rfl) (by rfl),
    erc1 (L2.OexC.a ⟨⟨nm_LimitExceeded, q_LimitExceeded, N_LimitExceeded, bs_LimitExceeded, bm_LimitExceeded, sn_LimitExceeded, sub_LimitExceeded, ab_LimitExceeded, col_LimitExceeded, dd_LimitExceeded, m0_LimitExceeded, m1_LimitExceeded, m2_LimitExceeded, m3_LimitExceeded, m5_LimitExceeded, xL_LimitExceeded, xm_LimitExceeded⟩, sa_LimitExceeded, eC_LimitExceeded, tC_LimitExceeded, kC_LimitExceeded⟩) nw_LimitExceeded n_LimitExceeded_limit (PySem.W.mg_of X G aC_LimitExceeded) iC_LimitExceeded tI_LimitExceeded (fun_mk (st := sLimitExceeded) l_LimitExceeded c_LimitExceeded k_LimitExceeded) ⟨rfl, rfl, rfl, by decide +kernel, rfl, by decide +kernel, by decide +kernel⟩ (fun _ _ _ _ _ _ us hl => match us, hl with | [_, _], _ => rfl) (by rfl),
    erc1 (L2.OexC.a ⟨⟨nm_NoMatch, q_NoMatch, N_NoMatch, bs_NoMatch, bm_NoMatch, sn_NoMatch, sub_NoMatch, ab_NoMatch, col_NoMatch, dd_NoMatch, m0_NoMatch, m1_NoMatch, m2_NoMatch, m3_NoMatch, m5_NoMatch, xL_NoMatch, xm_NoMatch⟩, sa_NoMatch, eC_NoMatch, tC_NoMatch, kC_NoMatch⟩) nw_NoMatch n_NoMatch_position (PySem.W.mg_of X G aC_NoMatch) iC_NoMatch tI_NoMatch (fun_mk (st := sNoMatch) l_NoMatch c_NoMatch k_NoMatch) ⟨rfl, rfl, rfl, by decide +kernel, rfl, by decide +kernel, by decide +kernel⟩ (fun _ _ _ _ _ _ us hl => match us, hl with | [_, _], _ => rfl) (by rfl),
    erc1 (L2.oexL ⟨nm_OutOfRange, q_OutOfRange, N_OutOfRange, bs_OutOfRange, bm_OutOfRange, sn_OutOfRange, sub_OutOfRange, ab_OutOfRange, col_OutOfRange, dd_OutOfRange, m0_OutOfRange, m1_OutOfRange, m2_OutOfRange, m3_OutOfRange, m5_OutOfRange, xL_OutOfRange, xm_OutOfRange⟩ sa_OutOfRange eC_OutOfRange tC_OutOfRange kC_OutOfRange) nw_OutOfRange n_OutOfRange_index (PySem.W.mg_of X G aC_OutOfRange) iC_OutOfRange tI_OutOfRange (fun_mk (st := sOutOfRange) l_OutOfRange c_OutOfRange k_OutOfRange) ⟨rfl, rfl, rfl, by decide +kernel, rfl, by decide +kernel, by decide +kernel⟩ (fun _ _ _ _ _ _ us hl => match us, hl with | [_, _], _ => rfl) (by rfl),
    erc1 (L2.OexC.a ⟨⟨nm_TerminalSymbol, q_TerminalSymbol, N_TerminalSymbol, bs_TerminalSymbol, bm_TerminalSymbol, sn_TerminalSymbol, sub_TerminalSymbol, ab_TerminalSymbol, col_TerminalSymbol, dd_TerminalSymbol, m0_TerminalSymbol, m1_TerminalSymbol, m2_TerminalSymbol, m3_TerminalSymbol, m5_TerminalSymbol, xL_TerminalSymbol, xm_TerminalSymbol⟩, sa_TerminalSymbol, eC_TerminalSymbol, tC_TerminalSymbol, kC_TerminalSymbol⟩) nw_TerminalSymbol n_TerminalSymbol_position (PySem.W.mg_of X G aC_TerminalSymbol) iC_TerminalSymbol tI_TerminalSymbol (fun_mk (st := sTerminalSymbol) l_TerminalSymbol c_TerminalSymbol k_TerminalSymbol) ⟨rfl, rfl, rfl, by decide +kernel, rfl, by decide +kernel, by decide +kernel⟩ (fun _ _ _ _ _ _ us hl => match us, hl with | [_, _], _ => rfl) (by rfl),
    erc1 (L2.oexL ⟨nm_UnknownSymbol, q_UnknownSymbol, N_UnknownSymbol, bs_UnknownSymbol, bm_UnknownSymbol, sn_UnknownSymbol, sub_UnknownSymbol, ab_UnknownSymbol, col_UnknownSymbol, dd_UnknownSymbol, m0_UnknownSymbol, m1_UnknownSymbol, m2_UnknownSymbol, m3_UnknownSymbol, m5_UnknownSymbol, xL_UnknownSymbol, xm_UnknownSymbol⟩ sa_UnknownSymbol eC_UnknownSymbol tC_UnknownSymbol kC_UnknownSymbol) nw_UnknownSymbol n_UnknownSymbol_name (PySem.W.mg_of X G aC_UnknownSymbol) iC_UnknownSymbol tI_UnknownSymbol (fun_mk (st := sUnknownSymbol) l_UnknownSymbol c_UnknownSymbol k_UnknownSymbol) ⟨rfl, rfl, rfl, by decide +kernel, rfl, by decide +kernel, by decide +kernel⟩ (fun _ _ _ _ _ _ us hl => match us, hl with | [_, _], _ => rfl) (by rfl),
    ⟨_, _, fun_mk (st := s_law_try) l_try c_try k_try, PySem.W.mg_of X G a_try⟩,
    PySem.W.mg_of X G aC_InvalidName,
    PySem.W.mg_of X G aC_DuplicateName,
    PySem.W.mg_of X G aC_UnknownSymbol,
    PySem.W.mg_of X G aC_UnknownUser,
    PySem.W.mg_of X G aC_InvalidRule,
    PySem.W.mg_of X G aC_MissingWeight,
    PySem.W.mg_of X G aC_RuleMismatch,
    PySem.W.mg_of X G aC_InvalidSequence,
    PySem.W.mg_of X G aC_TerminalSymbol,
    PySem.W.mg_of X G aC_NoMatch,
    PySem.W.mg_of X G aC_StepFailed,
    PySem.W.mg_of X G aC_StepInUse,
    PySem.W.mg_of X G aC_InvalidPath,
    PySem.W.mg_of X G aC_InvalidPoint,
    PySem.W.mg_of X G aC_OutOfRange,
    PySem.W.mg_of X G aC_LimitExceeded,
    PySem.W.mg_of X G aC_Blocked,
    PySem.W.mg_of X G aC_InvalidFile,
    PySem.W.mg_of X G aC_SunderError,
    PySem.W.mg_of X G aC_NotFound,
    ⟨⟨ga_InvalidName, gg_InvalidName, eC_InvalidName, hd_InvalidName⟩, pick_yes (exm_cons (exm_of eC_InvalidName ic_InvalidName tC_InvalidName sb_InvalidName_InvalidName) (exm_cons (exm_of eC_DuplicateName ic_DuplicateName tC_DuplicateName sb_InvalidName_DuplicateName) (exm_cons (exm_of eC_UnknownSymbol ic_UnknownSymbol tC_UnknownSymbol sb_InvalidName_UnknownSymbol) (exm_cons (exm_of eC_UnknownUser ic_UnknownUser tC_UnknownUser sb_InvalidName_UnknownUser) exm_nil)))), nw_InvalidName, n_InvalidName_name⟩,
    ⟨⟨ga_InvalidRule, gg_InvalidRule, eC_InvalidRule, hd_InvalidRule⟩, pick_no (exm_cons (exm_of eC_InvalidName ic_InvalidName tC_InvalidName sb_InvalidRule_InvalidName) (exm_cons (exm_of eC_DuplicateName ic_DuplicateName tC_DuplicateName sb_InvalidRule_DuplicateName) (exm_cons (exm_of eC_UnknownSymbol ic_UnknownSymbol tC_UnknownSymbol sb_InvalidRule_UnknownSymbol) (exm_cons (exm_of eC_UnknownUser ic_UnknownUser tC_UnknownUser sb_InvalidRule_UnknownUser) exm_nil)))) (pick_yes (exm_cons (exm_of eC_InvalidRule ic_InvalidRule tC_InvalidRule sb_InvalidRule_InvalidRule) (exm_cons (exm_of eC_MissingWeight ic_MissingWeight tC_MissingWeight sb_InvalidRule_MissingWeight) (exm_cons (exm_of eC_RuleMismatch ic_RuleMismatch tC_RuleMismatch sb_InvalidRule_RuleMismatch) exm_nil)))), nw_InvalidRule, n_InvalidRule_symbol⟩,
    ⟨⟨ga_InvalidSequence, gg_InvalidSequence, eC_InvalidSequence, hd_InvalidSequence⟩, pick_no (exm_cons (exm_of eC_InvalidName ic_InvalidName tC_InvalidName sb_InvalidSequence_InvalidName) (exm_cons (exm_of eC_DuplicateName ic_DuplicateName tC_DuplicateName sb_InvalidSequence_DuplicateName) (exm_cons (exm_of eC_UnknownSymbol ic_UnknownSymbol tC_UnknownSymbol sb_InvalidSequence_UnknownSymbol) (exm_cons (exm_of eC_UnknownUser ic_UnknownUser tC_UnknownUser sb_InvalidSequence_UnknownUser) exm_nil)))) (pick_no (exm_cons (exm_of eC_InvalidRule ic_InvalidRule tC_InvalidRule sb_InvalidSequence_InvalidRule) (exm_cons (exm_of eC_MissingWeight ic_MissingWeight tC_MissingWeight sb_InvalidSequence_MissingWeight) (exm_cons (exm_of eC_RuleMismatch ic_RuleMismatch tC_RuleMismatch sb_InvalidSequence_RuleMismatch) exm_nil))) (pick_yes (exm_cons (exm_of eC_InvalidSequence ic_InvalidSequence tC_InvalidSequence sb_InvalidSequence_InvalidSequence) (exm_cons (exm_of eC_TerminalSymbol ic_TerminalSymbol tC_TerminalSymbol sb_InvalidSequence_TerminalSymbol) (exm_cons (exm_of eC_NoMatch ic_NoMatch tC_NoMatch sb_InvalidSequence_NoMatch) exm_nil))))), nw_InvalidSequence, n_InvalidSequence_position⟩,
    ⟨⟨ga_InvalidStep, gg_InvalidStep, eC_InvalidStep, hd_InvalidStep⟩, pick_no (exm_cons (exm_of eC_InvalidName ic_InvalidName tC_InvalidName sb_InvalidStep_InvalidName) (exm_cons (exm_of eC_DuplicateName ic_DuplicateName tC_DuplicateName sb_InvalidStep_DuplicateName) (exm_cons (exm_of eC_UnknownSymbol ic_UnknownSymbol tC_UnknownSymbol sb_InvalidStep_UnknownSymbol) (exm_cons (exm_of eC_UnknownUser ic_UnknownUser tC_UnknownUser sb_InvalidStep_UnknownUser) exm_nil)))) (pick_no (exm_cons (exm_of eC_InvalidRule ic_InvalidRule tC_InvalidRule sb_InvalidStep_InvalidRule) (exm_cons (exm_of eC_MissingWeight ic_MissingWeight tC_MissingWeight sb_InvalidStep_MissingWeight) (exm_cons (exm_of eC_RuleMismatch ic_RuleMismatch tC_RuleMismatch sb_InvalidStep_RuleMismatch) exm_nil))) (pick_no (exm_cons (exm_of eC_InvalidSequence ic_InvalidSequence tC_InvalidSequence sb_InvalidStep_InvalidSequence) (exm_cons (exm_of eC_TerminalSymbol ic_TerminalSymbol tC_TerminalSymbol sb_InvalidStep_TerminalSymbol) (exm_cons (exm_of eC_NoMatch ic_NoMatch tC_NoMatch sb_InvalidStep_NoMatch) exm_nil))) (pick_no (exm_cons (exm_of eC_StepFailed ic_StepFailed tC_StepFailed sb_InvalidStep_StepFailed) exm_nil) (pick_no (exm_cons (exm_of eC_StepInUse ic_StepInUse tC_StepInUse sb_InvalidStep_StepInUse) (exm_cons (exm_of eC_InvalidPath ic_InvalidPath tC_InvalidPath sb_InvalidStep_InvalidPath) (exm_cons (exm_of eC_InvalidPoint ic_InvalidPoint tC_InvalidPoint sb_InvalidStep_InvalidPoint) (exm_cons (exm_of eC_OutOfRange ic_OutOfRange tC_OutOfRange sb_InvalidStep_OutOfRange) exm_nil)))) (pick_no (exm_cons (exm_of eC_LimitExceeded ic_LimitExceeded tC_LimitExceeded sb_InvalidStep_LimitExceeded) exm_nil) (pick_no (exm_cons (exm_of eC_Blocked ic_Blocked tC_Blocked sb_InvalidStep_Blocked) exm_nil) (pick_no (exm_cons (exm_of eC_InvalidFile ic_InvalidFile tC_InvalidFile sb_InvalidStep_InvalidFile) exm_nil) (pick_yes (exm_cons (exm_of eC_SunderError ic_SunderError tC_SunderError sb_InvalidStep_SunderError) (exm_cons (exm_of eC_NotFound ic_NotFound tC_NotFound sb_InvalidStep_NotFound) exm_nil)))))))))), nw_InvalidStep, True.intro⟩,
    ⟨⟨ga_LimitExceeded, gg_LimitExceeded, eC_LimitExceeded, hd_LimitExceeded⟩, pick_no (exm_cons (exm_of eC_InvalidName ic_InvalidName tC_InvalidName sb_LimitExceeded_InvalidName) (exm_cons (exm_of eC_DuplicateName ic_DuplicateName tC_DuplicateName sb_LimitExceeded_DuplicateName) (exm_cons (exm_of eC_UnknownSymbol ic_UnknownSymbol tC_UnknownSymbol sb_LimitExceeded_UnknownSymbol) (exm_cons (exm_of eC_UnknownUser ic_UnknownUser tC_UnknownUser sb_LimitExceeded_UnknownUser) exm_nil)))) (pick_no (exm_cons (exm_of eC_InvalidRule ic_InvalidRule tC_InvalidRule sb_LimitExceeded_InvalidRule) (exm_cons (exm_of eC_MissingWeight ic_MissingWeight tC_MissingWeight sb_LimitExceeded_MissingWeight) (exm_cons (exm_of eC_RuleMismatch ic_RuleMismatch tC_RuleMismatch sb_LimitExceeded_RuleMismatch) exm_nil))) (pick_no (exm_cons (exm_of eC_InvalidSequence ic_InvalidSequence tC_InvalidSequence sb_LimitExceeded_InvalidSequence) (exm_cons (exm_of eC_TerminalSymbol ic_TerminalSymbol tC_TerminalSymbol sb_LimitExceeded_TerminalSymbol) (exm_cons (exm_of eC_NoMatch ic_NoMatch tC_NoMatch sb_LimitExceeded_NoMatch) exm_nil))) (pick_no (exm_cons (exm_of eC_StepFailed ic_StepFailed tC_StepFailed sb_LimitExceeded_StepFailed) exm_nil) (pick_no (exm_cons (exm_of eC_StepInUse ic_StepInUse tC_StepInUse sb_LimitExceeded_StepInUse) (exm_cons (exm_of eC_InvalidPath ic_InvalidPath tC_InvalidPath sb_LimitExceeded_InvalidPath) (exm_cons (exm_of eC_InvalidPoint ic_InvalidPoint tC_InvalidPoint sb_LimitExceeded_InvalidPoint) (exm_cons (exm_of eC_OutOfRange ic_OutOfRange tC_OutOfRange sb_LimitExceeded_OutOfRange) exm_nil)))) (pick_yes (exm_cons (exm_of eC_LimitExceeded ic_LimitExceeded tC_LimitExceeded sb_LimitExceeded_LimitExceeded) exm_nil)))))), nw_LimitExceeded, n_LimitExceeded_limit⟩,
    ⟨⟨ga_NoMatch, gg_NoMatch, eC_NoMatch, hd_NoMatch⟩, pick_no (exm_cons (exm_of eC_InvalidName ic_InvalidName tC_InvalidName sb_NoMatch_InvalidName) (exm_cons (exm_of eC_DuplicateName ic_DuplicateName tC_DuplicateName sb_NoMatch_DuplicateName) (exm_cons (exm_of eC_UnknownSymbol ic_UnknownSymbol tC_UnknownSymbol sb_NoMatch_UnknownSymbol) (exm_cons (exm_of eC_UnknownUser ic_UnknownUser tC_UnknownUser sb_NoMatch_UnknownUser) exm_nil)))) (pick_no (exm_cons (exm_of eC_InvalidRule ic_InvalidRule tC_InvalidRule sb_NoMatch_InvalidRule) (exm_cons (exm_of eC_MissingWeight ic_MissingWeight tC_MissingWeight sb_NoMatch_MissingWeight) (exm_cons (exm_of eC_RuleMismatch ic_RuleMismatch tC_RuleMismatch sb_NoMatch_RuleMismatch) exm_nil))) (pick_yes (exm_cons (exm_of eC_InvalidSequence ic_InvalidSequence tC_InvalidSequence sb_NoMatch_InvalidSequence) (exm_cons (exm_of eC_TerminalSymbol ic_TerminalSymbol tC_TerminalSymbol sb_NoMatch_TerminalSymbol) (exm_cons (exm_of eC_NoMatch ic_NoMatch tC_NoMatch sb_NoMatch_NoMatch) exm_nil))))), nw_NoMatch, n_NoMatch_position⟩,
    ⟨⟨ga_OutOfRange, gg_OutOfRange, eC_OutOfRange, hd_OutOfRange⟩, pick_no (exm_cons (exm_of eC_InvalidName ic_InvalidName tC_InvalidName sb_OutOfRange_InvalidName) (exm_cons (exm_of eC_DuplicateName ic_DuplicateName tC_DuplicateName sb_OutOfRange_DuplicateName) (exm_cons (exm_of eC_UnknownSymbol ic_UnknownSymbol tC_UnknownSymbol sb_OutOfRange_UnknownSymbol) (exm_cons (exm_of eC_UnknownUser ic_UnknownUser tC_UnknownUser sb_OutOfRange_UnknownUser) exm_nil)))) (pick_no (exm_cons (exm_of eC_InvalidRule ic_InvalidRule tC_InvalidRule sb_OutOfRange_InvalidRule) (exm_cons (exm_of eC_MissingWeight ic_MissingWeight tC_MissingWeight sb_OutOfRange_MissingWeight) (exm_cons (exm_of eC_RuleMismatch ic_RuleMismatch tC_RuleMismatch sb_OutOfRange_RuleMismatch) exm_nil))) (pick_no (exm_cons (exm_of eC_InvalidSequence ic_InvalidSequence tC_InvalidSequence sb_OutOfRange_InvalidSequence) (exm_cons (exm_of eC_TerminalSymbol ic_TerminalSymbol tC_TerminalSymbol sb_OutOfRange_TerminalSymbol) (exm_cons (exm_of eC_NoMatch ic_NoMatch tC_NoMatch sb_OutOfRange_NoMatch) exm_nil))) (pick_no (exm_cons (exm_of eC_StepFailed ic_StepFailed tC_StepFailed sb_OutOfRange_StepFailed) exm_nil) (pick_yes (exm_cons (exm_of eC_StepInUse ic_StepInUse tC_StepInUse sb_OutOfRange_StepInUse) (exm_cons (exm_of eC_InvalidPath ic_InvalidPath tC_InvalidPath sb_OutOfRange_InvalidPath) (exm_cons (exm_of eC_InvalidPoint ic_InvalidPoint tC_InvalidPoint sb_OutOfRange_InvalidPoint) (exm_cons (exm_of eC_OutOfRange ic_OutOfRange tC_OutOfRange sb_OutOfRange_OutOfRange) exm_nil)))))))), nw_OutOfRange, n_OutOfRange_index⟩,
    ⟨⟨ga_TerminalSymbol, gg_TerminalSymbol, eC_TerminalSymbol, hd_TerminalSymbol⟩, pick_no (exm_cons (exm_of eC_InvalidName ic_InvalidName tC_InvalidName sb_TerminalSymbol_InvalidName) (exm_cons (exm_of eC_DuplicateName ic_DuplicateName tC_DuplicateName sb_TerminalSymbol_DuplicateName) (exm_cons (exm_of eC_UnknownSymbol ic_UnknownSymbol tC_UnknownSymbol sb_TerminalSymbol_UnknownSymbol) (exm_cons (exm_of eC_UnknownUser ic_UnknownUser tC_UnknownUser sb_TerminalSymbol_UnknownUser) exm_nil)))) (pick_no (exm_cons (exm_of eC_InvalidRule ic_InvalidRule tC_InvalidRule sb_TerminalSymbol_InvalidRule) (exm_cons (exm_of eC_MissingWeight ic_MissingWeight tC_MissingWeight sb_TerminalSymbol_MissingWeight) (exm_cons (exm_of eC_RuleMismatch ic_RuleMismatch tC_RuleMismatch sb_TerminalSymbol_RuleMismatch) exm_nil))) (pick_yes (exm_cons (exm_of eC_InvalidSequence ic_InvalidSequence tC_InvalidSequence sb_TerminalSymbol_InvalidSequence) (exm_cons (exm_of eC_TerminalSymbol ic_TerminalSymbol tC_TerminalSymbol sb_TerminalSymbol_TerminalSymbol) (exm_cons (exm_of eC_NoMatch ic_NoMatch tC_NoMatch sb_TerminalSymbol_NoMatch) exm_nil))))), nw_TerminalSymbol, n_TerminalSymbol_position⟩,
    ⟨⟨ga_UnknownSymbol, gg_UnknownSymbol, eC_UnknownSymbol, hd_UnknownSymbol⟩, pick_yes (exm_cons (exm_of eC_InvalidName ic_InvalidName tC_InvalidName sb_UnknownSymbol_InvalidName) (exm_cons (exm_of eC_DuplicateName ic_DuplicateName tC_DuplicateName sb_UnknownSymbol_DuplicateName) (exm_cons (exm_of eC_UnknownSymbol ic_UnknownSymbol tC_UnknownSymbol sb_UnknownSymbol_UnknownSymbol) (exm_cons (exm_of eC_UnknownUser ic_UnknownUser tC_UnknownUser sb_UnknownSymbol_UnknownUser) exm_nil)))), nw_UnknownSymbol, n_UnknownSymbol_name⟩,
    PySem.W.mg_none_of X G z_all,
    PySem.W.mg_none_of X G z_bool,
    PySem.W.mg_none_of X G z_dict,
    PySem.W.mg_none_of X G z_enumerate,
    PySem.W.mg_none_of X G z_int,
    PySem.W.mg_none_of X G z_isinstance,
    PySem.W.mg_none_of X G z_len,
    PySem.W.mg_none_of X G z_list,
    PySem.W.mg_none_of X G z_range,
    PySem.W.mg_none_of X G z_repr,
    PySem.W.mg_none_of X G z_sorted,
    PySem.W.mg_none_of X G z_str,
    PySem.W.mg_none_of X G z_tuple,
    ⟨_, PySem.W.mg_of X G y_LETTERS⟩,
    ⟨_, PySem.W.mg_of X G y_MAX_EXPANSION⟩,
    ⟨_, PySem.W.mg_of X G y_MAX_NAME⟩,
    ⟨_, PySem.W.mg_of X G y_MAX_STEPS⟩,
    ⟨_, PySem.W.mg_of X G y_MAX_SYMBOLS⟩⟩
  have G_Grammar_rules := okGrammar_rules T
  have G_check_sequence := okcheck_sequence T G_Grammar_rules
  have G_check_step := okcheck_step T
  have G_Grammar_expansion := okGrammar_expansion T
  have G_check_position := okcheck_position T
  have G_contract_at := okcontract_at T G_Grammar_expansion G_check_position
  have G_expand_at := okexpand_at T G_Grammar_expansion G_check_position
  have G_sequence_after := oksequence_after T G_check_step G_contract_at G_expand_at
  have G_Derivation_init := okDerivation_init T G_check_sequence G_sequence_after
  have G_Derivation_contracted := okDerivation_contracted T G_Derivation_init G_contract_at
  have G_Derivation_expanded := okDerivation_expanded T G_Derivation_init G_expand_at
  have G_is_name := okis_name T
  have G_is_rule := okis_rule T
  have G_Grammar_init := okGrammar_init T G_is_name G_is_rule
  have G__law_pull := ok_law_pull T
  have G__law_of := ok_law_of T G__law_pull
  have G__law_possible := ok_law_possible T
  have G__law_any_step := ok_law_any_step T G__law_of G__law_possible G__law_pull
  have G__law_derivation := ok_law_derivation T G_Derivation_init G_Grammar_init
  have G__law_names := ok_law_names T G__law_of G__law_pull
  have G__law_rules := ok_law_rules T G__law_names G__law_of G__law_pull
  have G__law_sequence := ok_law_sequence T G__law_of G__law_pull
  have G__law_after := ok_law_after T
  have G__law_steps := ok_law_steps T G__law_after G__law_of G__law_possible G__law_pull
  have G__law_drawn := ok_law_drawn T G__law_rules G__law_sequence G__law_steps
  have G__law_end := ok_law_end T G__law_after
  have G_Derivation_end := okDerivation_end T
  have G_Derivation_grammar := okDerivation_grammar T
  have G_Derivation_len := okDerivation_len T
  have G_Derivation_repr := okDerivation_repr T
  have G_Derivation_sequences := okDerivation_sequences T
  have G_Derivation_start := okDerivation_start T
  have G_Derivation_steps := okDerivation_steps T
  have G_sequence_text := oksequence_text T
  have G_step_text := okstep_text T G_check_step
  have G_Derivation_str := okDerivation_str T G_sequence_text G_step_text
  have G_Grammar_eq := okGrammar_eq T
  have G__law_same := ok_law_same T 8
  have G__law_is := ok_law_is T G_Derivation_end G_Derivation_grammar G_Derivation_len G_Derivation_repr G_Derivation_sequences G_Derivation_start G_Derivation_steps G_Derivation_str G_Grammar_eq G_Grammar_init G__law_after G__law_same
  have G__law_step_error := ok_law_step_error T
  exact ok_law T G_Derivation_contracted G_Derivation_expanded G_Derivation_init G_Grammar_init G__law_any_step G__law_derivation G__law_drawn G__law_end G__law_is G__law_possible G__law_same G__law_step_error (fun_mk (st := slaw) l41 c41 k41) rfl TB
end DL
open PySem PySem.W PyProof.Rows
set_option maxHeartbeats 0 in
theorem PySem.Challenge.cw_sunderow_k17_one_more_step_holds : PySem.Challenge.rw_sunderow_k17_one_more_step.Holds := by
  w_on; o_law; k_head; (case hw => w_witness2)
  k_fill
  refine LamX.walk_ofOwn (l := PySem.Challenge.rw_sunderow_k17_one_more_step) (n := 63) (k := 13) (x := "_law_script") (CX := fun _ => L2.CX0) rfl (by decide) rfl ⟨rfl, by decide, by decide⟩ (by decide +kernel) (fun w h Y => PySem.W.km_in_of Y) ?F (fun _ _ _ _ _ h => h)
  case F =>
    intro w mg fa h Y KX G hmg own
    refine' DL.all_mk KX G hmg own ?aC_Derivation ?aC_Grammar ?a0 ?i0 ?l0 ?c0 ?k0 ?a1 ?l1 ?c1 ?k1 ?a2 ?l2 ?c2 ?k2 ?a3 ?i3 ?l3 ?c3 ?k3 ?a4 ?l4 ?c4 ?k4 ?a5 ?l5 ?c5 ?k5 ?a6 ?l6 ?c6 ?k6 ?a7 ?l7 ?c7 ?k7 ?a8 ?i8 ?l8 ?lT8 ?c8 ?k8 ?a9 ?i9 ?l9 ?c9 ?k9 ?a10 ?i10 ?l10 ?c10 ?k10 ?a11 ?l11 ?c11 ?k11 ?a12 ?l12 ?c12 ?k12 ?a13 ?i13 ?l13 ?c13 ?k13 ?a14 ?l14 ?c14 ?k14 ?a15 ?l15 ?c15 ?k15 ?a16 ?l16 ?c16 ?k16 ?a17 ?l17 ?c17 ?k17 ?a18 ?l18 ?c18 ?k18 ?a19 ?l19 ?c19 ?k19 ?a20 ?l20 ?c20 ?k20 ?a21 ?l21 ?c21 ?k21 ?a22 ?l22 ?c22 ?k22 ?a23 ?l23 ?c23 ?k23 ?a24 ?l24 ?c24 ?k24 ?a25 ?l25 ?c25 ?k25 ?a26 ?l26 ?c26 ?k26 ?a27 ?i27 ?l27 ?c27 ?k27 ?a28 ?i28 ?l28 ?c28 ?k28 ?a29 ?i29 ?l29 ?c29 ?k29 ?a30 ?i30 ?l30 ?c30 ?k30 ?a31 ?i31 ?l31 ?c31 ?k31 ?a32 ?i32 ?l32 ?c32 ?k32 ?a33 ?i33 ?l33 ?c33 ?k33 ?a34 ?l34 ?c34 ?k34 ?a35 ?l35 ?c35 ?k35 ?a36 ?i36 ?l36 ?c36 ?k36 ?a37 ?i37 ?l37 ?c37 ?k37 ?a38 ?l38 ?c38 ?k38 ?a39 ?l39 ?c39 ?k39 ?a40 ?l40 ?c40 ?k40 ?a41 ?l41 ?c41 ?k41 ?pg_Derivation ?hd_Derivation ?po_Derivation ?sa_Derivation ?mk_Derivation ?kc_Derivation ?pg_Grammar ?hd_Grammar ?po_Grammar ?sa_Grammar ?mk_Grammar ?kc_Grammar ?nf_Derivation_actions ?nf_Derivation_base ?nf_Derivation_states ?nf_Grammar_table ?ob_Derivation ?ob_Grammar ?ne_Grammar ?ia_Derivation ?ia_Grammar ?ihn ?iht ?aC_InvalidName ?xL_InvalidName ?xm_InvalidName ?sa_InvalidName ?eC_InvalidName ?tC_InvalidName ?kC_InvalidName ?nw_InvalidName ?n_InvalidName_name ?iC_InvalidName ?tI_InvalidName ?l_InvalidName ?c_InvalidName ?k_InvalidName ?aC_InvalidRule ?xL_InvalidRule ?xm_InvalidRule ?sa_InvalidRule ?eC_InvalidRule ?tC_InvalidRule ?kC_InvalidRule ?nw_InvalidRule ?n_InvalidRule_symbol ?iC_InvalidRule ?tI_InvalidRule ?l_InvalidRule ?c_InvalidRule ?k_InvalidRule ?aC_InvalidSequence ?xL_InvalidSequence ?xm_InvalidSequence ?sa_InvalidSequence ?eC_InvalidSequence ?tC_InvalidSequence ?kC_InvalidSequence ?nw_InvalidSequence ?n_InvalidSequence_position ?iC_InvalidSequence ?tI_InvalidSequence ?l_InvalidSequence ?c_InvalidSequence ?k_InvalidSequence ?aC_InvalidStep ?xL_InvalidStep ?xm_InvalidStep ?sa_InvalidStep ?eC_InvalidStep ?tC_InvalidStep ?kC_InvalidStep ?nw_InvalidStep ?iC_InvalidStep ?tI_InvalidStep ?l_InvalidStep ?c_InvalidStep ?k_InvalidStep ?aC_LimitExceeded ?xL_LimitExceeded ?xm_LimitExceeded ?sa_LimitExceeded ?eC_LimitExceeded ?tC_LimitExceeded ?kC_LimitExceeded ?nw_LimitExceeded ?n_LimitExceeded_limit ?iC_LimitExceeded ?tI_LimitExceeded ?l_LimitExceeded ?c_LimitExceeded ?k_LimitExceeded ?aC_NoMatch ?xL_NoMatch ?xm_NoMatch ?sa_NoMatch ?eC_NoMatch ?tC_NoMatch ?kC_NoMatch ?nw_NoMatch ?n_NoMatch_position ?iC_NoMatch ?tI_NoMatch ?l_NoMatch ?c_NoMatch ?k_NoMatch ?aC_OutOfRange ?xL_OutOfRange ?xm_OutOfRange ?sa_OutOfRange ?eC_OutOfRange ?tC_OutOfRange ?kC_OutOfRange ?nw_OutOfRange ?n_OutOfRange_index ?iC_OutOfRange ?tI_OutOfRange ?l_OutOfRange ?c_OutOfRange ?k_OutOfRange ?aC_TerminalSymbol ?xL_TerminalSymbol ?xm_TerminalSymbol ?sa_TerminalSymbol ?eC_TerminalSymbol ?tC_TerminalSymbol ?kC_TerminalSymbol ?nw_TerminalSymbol ?n_TerminalSymbol_position ?iC_TerminalSymbol ?tI_TerminalSymbol ?l_TerminalSymbol ?c_TerminalSymbol ?k_TerminalSymbol ?aC_UnknownSymbol ?xL_UnknownSymbol ?xm_UnknownSymbol ?sa_UnknownSymbol ?eC_UnknownSymbol ?tC_UnknownSymbol ?kC_UnknownSymbol ?nw_UnknownSymbol ?n_UnknownSymbol_name ?iC_UnknownSymbol ?tI_UnknownSymbol ?l_UnknownSymbol ?c_UnknownSymbol ?k_UnknownSymbol ?a_try ?l_try ?c_try ?k_try ?ic_InvalidName ?aC_DuplicateName ?eC_DuplicateName ?tC_DuplicateName ?ic_DuplicateName ?ic_UnknownSymbol ?aC_UnknownUser ?eC_UnknownUser ?tC_UnknownUser ?ic_UnknownUser ?ic_InvalidRule ?aC_MissingWeight ?eC_MissingWeight ?tC_MissingWeight ?ic_MissingWeight ?aC_RuleMismatch ?eC_RuleMismatch ?tC_RuleMismatch ?ic_RuleMismatch ?ic_InvalidSequence ?ic_TerminalSymbol ?ic_NoMatch ?aC_StepFailed ?eC_StepFailed ?tC_StepFailed ?ic_StepFailed ?aC_StepInUse ?eC_StepInUse ?tC_StepInUse ?ic_StepInUse ?aC_InvalidPath ?eC_InvalidPath ?tC_InvalidPath ?ic_InvalidPath ?aC_InvalidPoint ?eC_InvalidPoint ?tC_InvalidPoint ?ic_InvalidPoint ?ic_OutOfRange ?ic_LimitExceeded ?aC_Blocked ?eC_Blocked ?tC_Blocked ?ic_Blocked ?aC_InvalidFile ?eC_InvalidFile ?tC_InvalidFile ?ic_InvalidFile ?aC_SunderError ?eC_SunderError ?tC_SunderError ?ic_SunderError ?aC_NotFound ?eC_NotFound ?tC_NotFound ?ic_NotFound ?ga_InvalidName ?gg_InvalidName ?hd_InvalidName ?sb_InvalidName_InvalidName ?sb_InvalidName_DuplicateName ?sb_InvalidName_UnknownSymbol ?sb_InvalidName_UnknownUser ?ga_InvalidRule ?gg_InvalidRule ?hd_InvalidRule ?sb_InvalidRule_InvalidName ?sb_InvalidRule_DuplicateName ?sb_InvalidRule_UnknownSymbol ?sb_InvalidRule_UnknownUser ?sb_InvalidRule_InvalidRule ?sb_InvalidRule_MissingWeight ?sb_InvalidRule_RuleMismatch ?ga_InvalidSequence ?gg_InvalidSequence ?hd_InvalidSequence ?sb_InvalidSequence_InvalidName ?sb_InvalidSequence_DuplicateName ?sb_InvalidSequence_UnknownSymbol ?sb_InvalidSequence_UnknownUser ?sb_InvalidSequence_InvalidRule ?sb_InvalidSequence_MissingWeight ?sb_InvalidSequence_RuleMismatch ?sb_InvalidSequence_InvalidSequence ?sb_InvalidSequence_TerminalSymbol ?sb_InvalidSequence_NoMatch ?ga_InvalidStep ?gg_InvalidStep ?hd_InvalidStep ?sb_InvalidStep_InvalidName ?sb_InvalidStep_DuplicateName ?sb_InvalidStep_UnknownSymbol ?sb_InvalidStep_UnknownUser ?sb_InvalidStep_InvalidRule ?sb_InvalidStep_MissingWeight ?sb_InvalidStep_RuleMismatch ?sb_InvalidStep_InvalidSequence ?sb_InvalidStep_TerminalSymbol ?sb_InvalidStep_NoMatch ?sb_InvalidStep_StepFailed ?sb_InvalidStep_StepInUse ?sb_InvalidStep_InvalidPath ?sb_InvalidStep_InvalidPoint ?sb_InvalidStep_OutOfRange ?sb_InvalidStep_LimitExceeded ?sb_InvalidStep_Blocked ?sb_InvalidStep_InvalidFile ?sb_InvalidStep_SunderError ?sb_InvalidStep_NotFound ?ga_LimitExceeded ?gg_LimitExceeded ?hd_LimitExceeded ?sb_LimitExceeded_InvalidName ?sb_LimitExceeded_DuplicateName ?sb_LimitExceeded_UnknownSymbol ?sb_LimitExceeded_UnknownUser ?sb_LimitExceeded_InvalidRule ?sb_LimitExceeded_MissingWeight ?sb_LimitExceeded_RuleMismatch ?sb_LimitExceeded_InvalidSequence ?sb_LimitExceeded_TerminalSymbol ?sb_LimitExceeded_NoMatch ?sb_LimitExceeded_StepFailed ?sb_LimitExceeded_StepInUse ?sb_LimitExceeded_InvalidPath ?sb_LimitExceeded_InvalidPoint ?sb_LimitExceeded_OutOfRange ?sb_LimitExceeded_LimitExceeded ?ga_NoMatch ?gg_NoMatch ?hd_NoMatch ?sb_NoMatch_InvalidName ?sb_NoMatch_DuplicateName ?sb_NoMatch_UnknownSymbol ?sb_NoMatch_UnknownUser ?sb_NoMatch_InvalidRule ?sb_NoMatch_MissingWeight ?sb_NoMatch_RuleMismatch ?sb_NoMatch_InvalidSequence ?sb_NoMatch_TerminalSymbol ?sb_NoMatch_NoMatch ?ga_OutOfRange ?gg_OutOfRange ?hd_OutOfRange ?sb_OutOfRange_InvalidName ?sb_OutOfRange_DuplicateName ?sb_OutOfRange_UnknownSymbol ?sb_OutOfRange_UnknownUser ?sb_OutOfRange_InvalidRule ?sb_OutOfRange_MissingWeight ?sb_OutOfRange_RuleMismatch ?sb_OutOfRange_InvalidSequence ?sb_OutOfRange_TerminalSymbol ?sb_OutOfRange_NoMatch ?sb_OutOfRange_StepFailed ?sb_OutOfRange_StepInUse ?sb_OutOfRange_InvalidPath ?sb_OutOfRange_InvalidPoint ?sb_OutOfRange_OutOfRange ?ga_TerminalSymbol ?gg_TerminalSymbol ?hd_TerminalSymbol ?sb_TerminalSymbol_InvalidName ?sb_TerminalSymbol_DuplicateName ?sb_TerminalSymbol_UnknownSymbol ?sb_TerminalSymbol_UnknownUser ?sb_TerminalSymbol_InvalidRule ?sb_TerminalSymbol_MissingWeight ?sb_TerminalSymbol_RuleMismatch ?sb_TerminalSymbol_InvalidSequence ?sb_TerminalSymbol_TerminalSymbol ?sb_TerminalSymbol_NoMatch ?ga_UnknownSymbol ?gg_UnknownSymbol ?hd_UnknownSymbol ?sb_UnknownSymbol_InvalidName ?sb_UnknownSymbol_DuplicateName ?sb_UnknownSymbol_UnknownSymbol ?sb_UnknownSymbol_UnknownUser ?lc ?hv ?hn ?hd ?z_all ?z_bool ?z_dict ?z_enumerate ?z_int ?z_isinstance ?z_len ?z_list ?z_range ?z_repr ?z_sorted ?z_str ?z_tuple ?y_LETTERS ?y_MAX_EXPANSION ?y_MAX_NAME ?y_MAX_STEPS ?y_MAX_SYMBOLS
    (case aC_Derivation => k_is); (case aC_Grammar => k_is); (case a0 => k_is); (case i0 => k_is); (case l0 => k_is); (case c0 => k_is); (case k0 => k_is); (case a1 => k_is); (case l1 => k_is); (case c1 => k_is); (case k1 => k_is); (case a2 => k_is); (case l2 => k_is); (case c2 => k_is); (case k2 => k_is); (case a3 => k_is); (case i3 => k_is); (case l3 => k_is); (case c3 => k_is); (case k3 => k_is); (case a4 => k_is); (case l4 => k_is); (case c4 => k_is); (case k4 => k_is); (case a5 => k_is); (case l5 => k_is); (case c5 => k_is); (case k5 => k_is); (case a6 => k_is); (case l6 => k_is); (case c6 => k_is); (case k6 => k_is); (case a7 => k_is); (case l7 => k_is); (case c7 => k_is); (case k7 => k_is); (case a8 => k_is); (case i8 => k_is); (case l8 => k_is); (case lT8 => k_is); (case c8 => k_is); (case k8 => k_is); (case a9 => k_is); (case i9 => k_is); (case l9 => k_is); (case c9 => k_is); (case k9 => k_is); (case a10 => k_is); (case i10 => k_is); (case l10 => k_is); (case c10 => k_is); (case k10 => k_is); (case a11 => k_is); (case l11 => k_is); (case c11 => k_is); (case k11 => k_is); (case a12 => k_is); (case l12 => k_is); (case c12 => k_is); (case k12 => k_is); (case a13 => k_is); (case i13 => k_is); (case l13 => k_is); (case c13 => k_is); (case k13 => k_is); (case a14 => k_is); (case l14 => k_is); (case c14 => k_is); (case k14 => k_is); (case a15 => k_is); (case l15 => k_is); (case c15 => k_is); (case k15 => k_is); (case a16 => k_is); (case l16 => k_is); (case c16 => k_is); (case k16 => k_is); (case a17 => k_is); (case l17 => k_is); (case c17 => k_is); (case k17 => k_is); (case a18 => k_is); (case l18 => k_is); (case c18 => k_is); (case k18 => k_is); (case a19 => k_is); (case l19 => k_is); (case c19 => k_is); (case k19 => k_is); (case a20 => k_is); (case l20 => k_is); (case c20 => k_is); (case k20 => k_is); (case a21 => k_is); (case l21 => k_is); (case c21 => k_is); (case k21 => k_is); (case a22 => k_is); (case l22 => k_is); (case c22 => k_is); (case k22 => k_is); (case a23 => k_is); (case l23 => k_is); (case c23 => k_is); (case k23 => k_is); (case a24 => k_is); (case l24 => k_is); (case c24 => k_is); (case k24 => k_is); (case a25 => k_is); (case l25 => k_is); (case c25 => k_is); (case k25 => k_is); (case a26 => k_is); (case l26 => k_is); (case c26 => k_is); (case k26 => k_is); (case a27 => k_is); (case i27 => k_is); (case l27 => k_is); (case c27 => k_is); (case k27 => k_is); (case a28 => k_is); (case i28 => k_is); (case l28 => k_is); (case c28 => k_is); (case k28 => k_is); (case a29 => k_is); (case i29 => k_is); (case l29 => k_is); (case c29 => k_is); (case k29 => k_is); (case a30 => k_is); (case i30 => k_is); (case l30 => k_is); (case c30 => k_is); (case k30 => k_is); (case a31 => k_is); (case i31 => k_is); (case l31 => k_is); (case c31 => k_is); (case k31 => k_is); (case a32 => k_is); (case i32 => k_is); (case l32 => k_is); (case c32 => k_is); (case k32 => k_is); (case a33 => k_is); (case i33 => k_is); (case l33 => k_is); (case c33 => k_is); (case k33 => k_is); (case a34 => k_is); (case l34 => k_is); (case c34 => k_is); (case k34 => k_is); (case a35 => k_is); (case l35 => k_is); (case c35 => k_is); (case k35 => k_is); (case a36 => k_is); (case i36 => k_is); (case l36 => k_is); (case c36 => k_is); (case k36 => k_is); (case a37 => k_is); (case i37 => k_is); (case l37 => k_is); (case c37 => k_is); (case k37 => k_is); (case a38 => k_is); (case l38 => k_is); (case c38 => k_is); (case k38 => k_is); (case a39 => k_is); (case l39 => k_is); (case c39 => k_is); (case k39 => k_is); (case a40 => k_is); (case l40 => k_is); (case c40 => k_is); (case k40 => k_is); (case a41 => k_is); (case l41 => k_is); (case c41 => k_is); (case k41 => k_is); (case pg_Derivation => k_is); (case hd_Derivation => k_is); (case po_Derivation => k_is); (case sa_Derivation => k_is); (case mk_Derivation => k_is); (case kc_Derivation => k_is); (case pg_Grammar => k_is); (case hd_Grammar => k_is); (case po_Grammar => k_is); (case sa_Grammar => k_is); (case mk_Grammar => k_is); (case kc_Grammar => k_is); (case nf_Derivation_actions => k_is); (case nf_Derivation_base => k_is); (case nf_Derivation_states => k_is); (case nf_Grammar_table => k_is); (case ob_Derivation => k_is); (case ob_Grammar => k_is); (case ne_Grammar => k_is); (case ia_Derivation => k_is); (case ia_Grammar => k_is); (case ihn => k_is); (case iht => k_is); (case aC_InvalidName => k_is); (case xL_InvalidName => k_is); (case xm_InvalidName => decide +kernel); (case sa_InvalidName => k_is); (case eC_InvalidName => k_is); (case tC_InvalidName => k_is); (case kC_InvalidName => k_is); (case nw_InvalidName => k_is); (case n_InvalidName_name => k_is); (case iC_InvalidName => k_is); (case tI_InvalidName => k_is); (case l_InvalidName => k_is); (case c_InvalidName => k_is); (case k_InvalidName => k_is); (case aC_InvalidRule => k_is); (case xL_InvalidRule => k_is); (case xm_InvalidRule => decide +kernel); (case sa_InvalidRule => k_is); (case eC_InvalidRule => k_is); (case tC_InvalidRule => k_is); (case kC_InvalidRule => k_is); (case nw_InvalidRule => k_is); (case n_InvalidRule_symbol => k_is); (case iC_InvalidRule => k_is); (case tI_InvalidRule => k_is); (case l_InvalidRule => k_is); (case c_InvalidRule => k_is); (case k_InvalidRule => k_is); (case aC_InvalidSequence => k_is); (case xL_InvalidSequence => k_is); (case xm_InvalidSequence => decide +kernel); (case sa_InvalidSequence => k_is); (case eC_InvalidSequence => k_is); (case tC_InvalidSequence => k_is); (case kC_InvalidSequence => k_is); (case nw_InvalidSequence => k_is); (case n_InvalidSequence_position => k_is); (case iC_InvalidSequence => k_is); (case tI_InvalidSequence => k_is); (case l_InvalidSequence => k_is); (case c_InvalidSequence => k_is); (case k_InvalidSequence => k_is); (case aC_InvalidStep => k_is); (case xL_InvalidStep => k_is); (case xm_InvalidStep => decide +kernel); (case sa_InvalidStep => k_is); (case eC_InvalidStep => k_is); (case tC_InvalidStep => k_is); (case kC_InvalidStep => k_is); (case nw_InvalidStep => k_is); (case iC_InvalidStep => k_is); (case tI_InvalidStep => k_is); (case l_InvalidStep => k_is); (case c_InvalidStep => k_is); (case k_InvalidStep => k_is); (case aC_LimitExceeded => k_is); (case xL_LimitExceeded => k_is); (case xm_LimitExceeded => decide +kernel); (case sa_LimitExceeded => k_is); (case eC_LimitExceeded => k_is); (case tC_LimitExceeded => k_is); (case kC_LimitExceeded => k_is); (case nw_LimitExceeded => k_is); (case n_LimitExceeded_limit => k_is); (case iC_LimitExceeded => k_is); (case tI_LimitExceeded => k_is); (case l_LimitExceeded => k_is); (case c_LimitExceeded => k_is); (case k_LimitExceeded => k_is); (case aC_NoMatch => k_is); (case xL_NoMatch => k_is); (case xm_NoMatch => decide +kernel); (case sa_NoMatch => k_is); (case eC_NoMatch => k_is); (case tC_NoMatch => k_is); (case kC_NoMatch => k_is); (case nw_NoMatch => k_is); (case n_NoMatch_position => k_is); (case iC_NoMatch => k_is); (case tI_NoMatch => k_is); (case l_NoMatch => k_is); (case c_NoMatch => k_is); (case k_NoMatch => k_is); (case aC_OutOfRange => k_is); (case xL_OutOfRange => k_is); (case xm_OutOfRange => decide +kernel); (case sa_OutOfRange => k_is); (case eC_OutOfRange => k_is); (case tC_OutOfRange => k_is); (case kC_OutOfRange => k_is); (case nw_OutOfRange => k_is); (case n_OutOfRange_index => k_is); (case iC_OutOfRange => k_is); (case tI_OutOfRange => k_is); (case l_OutOfRange => k_is); (case c_OutOfRange => k_is); (case k_OutOfRange => k_is); (case aC_TerminalSymbol => k_is); (case xL_TerminalSymbol => k_is); (case xm_TerminalSymbol => decide +kernel); (case sa_TerminalSymbol => k_is); (case eC_TerminalSymbol => k_is); (case tC_TerminalSymbol => k_is); (case kC_TerminalSymbol => k_is); (case nw_TerminalSymbol => k_is); (case n_TerminalSymbol_position => k_is); (case iC_TerminalSymbol => k_is); (case tI_TerminalSymbol => k_is); (case l_TerminalSymbol => k_is); (case c_TerminalSymbol => k_is); (case k_TerminalSymbol => k_is); (case aC_UnknownSymbol => k_is); (case xL_UnknownSymbol => k_is); (case xm_UnknownSymbol => decide +kernel); (case sa_UnknownSymbol => k_is); (case eC_UnknownSymbol => k_is); (case tC_UnknownSymbol => k_is); (case kC_UnknownSymbol => k_is); (case nw_UnknownSymbol => k_is); (case n_UnknownSymbol_name => k_is); (case iC_UnknownSymbol => k_is); (case tI_UnknownSymbol => k_is); (case l_UnknownSymbol => k_is); (case c_UnknownSymbol => k_is); (case k_UnknownSymbol => k_is); (case a_try => k_is); (case l_try => k_is); (case c_try => k_is); (case k_try => k_is); (case ic_InvalidName => k_is); (case aC_DuplicateName => k_is); (case eC_DuplicateName => k_is); (case tC_DuplicateName => k_is); (case ic_DuplicateName => k_is); (case ic_UnknownSymbol => k_is); (case aC_UnknownUser => k_is); (case eC_UnknownUser => k_is); (case tC_UnknownUser => k_is); (case ic_UnknownUser => k_is); (case ic_InvalidRule => k_is); (case aC_MissingWeight => k_is); (case eC_MissingWeight => k_is); (case tC_MissingWeight => k_is); (case ic_MissingWeight => k_is); (case aC_RuleMismatch => k_is); (case eC_RuleMismatch => k_is); (case tC_RuleMismatch => k_is); (case ic_RuleMismatch => k_is); (case ic_InvalidSequence => k_is); (case ic_TerminalSymbol => k_is); (case ic_NoMatch => k_is); (case aC_StepFailed => k_is); (case eC_StepFailed => k_is); (case tC_StepFailed => k_is); (case ic_StepFailed => k_is); (case aC_StepInUse => k_is); (case eC_StepInUse => k_is); (case tC_StepInUse => k_is); (case ic_StepInUse => k_is); (case aC_InvalidPath => k_is); (case eC_InvalidPath => k_is); (case tC_InvalidPath => k_is); (case ic_InvalidPath => k_is); (case aC_InvalidPoint => k_is); (case eC_InvalidPoint => k_is); (case tC_InvalidPoint => k_is); (case ic_InvalidPoint => k_is); (case ic_OutOfRange => k_is); (case ic_LimitExceeded => k_is); (case aC_Blocked => k_is); (case eC_Blocked => k_is); (case tC_Blocked => k_is); (case ic_Blocked => k_is); (case aC_InvalidFile => k_is); (case eC_InvalidFile => k_is); (case tC_InvalidFile => k_is); (case ic_InvalidFile => k_is); (case aC_SunderError => k_is); (case eC_SunderError => k_is); (case tC_SunderError => k_is); (case ic_SunderError => k_is); (case aC_NotFound => k_is); (case eC_NotFound => k_is); (case tC_NotFound => k_is); (case ic_NotFound => k_is); (case ga_InvalidName => k_is); (case gg_InvalidName => k_is); (case hd_InvalidName => k_is); (case sb_InvalidName_InvalidName => k_is); (case sb_InvalidName_DuplicateName => k_is); (case sb_InvalidName_UnknownSymbol => k_is); (case sb_InvalidName_UnknownUser => k_is); (case ga_InvalidRule => k_is); (case gg_InvalidRule => k_is); (case hd_InvalidRule => k_is); (case sb_InvalidRule_InvalidName => k_is); (case sb_InvalidRule_DuplicateName => k_is); (case sb_InvalidRule_UnknownSymbol => k_is); (case sb_InvalidRule_UnknownUser => k_is); (case sb_InvalidRule_InvalidRule => k_is); (case sb_InvalidRule_MissingWeight => k_is); (case sb_InvalidRule_RuleMismatch => k_is); (case ga_InvalidSequence => k_is); (case gg_InvalidSequence => k_is); (case hd_InvalidSequence => k_is); (case sb_InvalidSequence_InvalidName => k_is); (case sb_InvalidSequence_DuplicateName => k_is); (case sb_InvalidSequence_UnknownSymbol => k_is); (case sb_InvalidSequence_UnknownUser => k_is); (case sb_InvalidSequence_InvalidRule => k_is); (case sb_InvalidSequence_MissingWeight => k_is); (case sb_InvalidSequence_RuleMismatch => k_is); (case sb_InvalidSequence_InvalidSequence => k_is); (case sb_InvalidSequence_TerminalSymbol => k_is); (case sb_InvalidSequence_NoMatch => k_is); (case ga_InvalidStep => k_is); (case gg_InvalidStep => k_is); (case hd_InvalidStep => k_is); (case sb_InvalidStep_InvalidName => k_is); (case sb_InvalidStep_DuplicateName => k_is); (case sb_InvalidStep_UnknownSymbol => k_is); (case sb_InvalidStep_UnknownUser => k_is); (case sb_InvalidStep_InvalidRule => k_is); (case sb_InvalidStep_MissingWeight => k_is); (case sb_InvalidStep_RuleMismatch => k_is); (case sb_InvalidStep_InvalidSequence => k_is); (case sb_InvalidStep_TerminalSymbol => k_is); (case sb_InvalidStep_NoMatch => k_is); (case sb_InvalidStep_StepFailed => k_is); (case sb_InvalidStep_StepInUse => k_is); (case sb_InvalidStep_InvalidPath => k_is); (case sb_InvalidStep_InvalidPoint => k_is); (case sb_InvalidStep_OutOfRange => k_is); (case sb_InvalidStep_LimitExceeded => k_is); (case sb_InvalidStep_Blocked => k_is); (case sb_InvalidStep_InvalidFile => k_is); (case sb_InvalidStep_SunderError => k_is); (case sb_InvalidStep_NotFound => k_is); (case ga_LimitExceeded => k_is); (case gg_LimitExceeded => k_is); (case hd_LimitExceeded => k_is); (case sb_LimitExceeded_InvalidName => k_is); (case sb_LimitExceeded_DuplicateName => k_is); (case sb_LimitExceeded_UnknownSymbol => k_is); (case sb_LimitExceeded_UnknownUser => k_is); (case sb_LimitExceeded_InvalidRule => k_is); (case sb_LimitExceeded_MissingWeight => k_is); (case sb_LimitExceeded_RuleMismatch => k_is); (case sb_LimitExceeded_InvalidSequence => k_is); (case sb_LimitExceeded_TerminalSymbol => k_is); (case sb_LimitExceeded_NoMatch => k_is); (case sb_LimitExceeded_StepFailed => k_is); (case sb_LimitExceeded_StepInUse => k_is); (case sb_LimitExceeded_InvalidPath => k_is); (case sb_LimitExceeded_InvalidPoint => k_is); (case sb_LimitExceeded_OutOfRange => k_is); (case sb_LimitExceeded_LimitExceeded => k_is); (case ga_NoMatch => k_is); (case gg_NoMatch => k_is); (case hd_NoMatch => k_is); (case sb_NoMatch_InvalidName => k_is); (case sb_NoMatch_DuplicateName => k_is); (case sb_NoMatch_UnknownSymbol => k_is); (case sb_NoMatch_UnknownUser => k_is); (case sb_NoMatch_InvalidRule => k_is); (case sb_NoMatch_MissingWeight => k_is); (case sb_NoMatch_RuleMismatch => k_is); (case sb_NoMatch_InvalidSequence => k_is); (case sb_NoMatch_TerminalSymbol => k_is); (case sb_NoMatch_NoMatch => k_is); (case ga_OutOfRange => k_is); (case gg_OutOfRange => k_is); (case hd_OutOfRange => k_is); (case sb_OutOfRange_InvalidName => k_is); (case sb_OutOfRange_DuplicateName => k_is); (case sb_OutOfRange_UnknownSymbol => k_is); (case sb_OutOfRange_UnknownUser => k_is); (case sb_OutOfRange_InvalidRule => k_is); (case sb_OutOfRange_MissingWeight => k_is); (case sb_OutOfRange_RuleMismatch => k_is); (case sb_OutOfRange_InvalidSequence => k_is); (case sb_OutOfRange_TerminalSymbol => k_is); (case sb_OutOfRange_NoMatch => k_is); (case sb_OutOfRange_StepFailed => k_is); (case sb_OutOfRange_StepInUse => k_is); (case sb_OutOfRange_InvalidPath => k_is); (case sb_OutOfRange_InvalidPoint => k_is); (case sb_OutOfRange_OutOfRange => k_is); (case ga_TerminalSymbol => k_is); (case gg_TerminalSymbol => k_is); (case hd_TerminalSymbol => k_is); (case sb_TerminalSymbol_InvalidName => k_is); (case sb_TerminalSymbol_DuplicateName => k_is); (case sb_TerminalSymbol_UnknownSymbol => k_is); (case sb_TerminalSymbol_UnknownUser => k_is); (case sb_TerminalSymbol_InvalidRule => k_is); (case sb_TerminalSymbol_MissingWeight => k_is); (case sb_TerminalSymbol_RuleMismatch => k_is); (case sb_TerminalSymbol_InvalidSequence => k_is); (case sb_TerminalSymbol_TerminalSymbol => k_is); (case sb_TerminalSymbol_NoMatch => k_is); (case ga_UnknownSymbol => k_is); (case gg_UnknownSymbol => k_is); (case hd_UnknownSymbol => k_is); (case sb_UnknownSymbol_InvalidName => k_is); (case sb_UnknownSymbol_DuplicateName => k_is); (case sb_UnknownSymbol_UnknownSymbol => k_is); (case sb_UnknownSymbol_UnknownUser => k_is); (case lc => k_is); (case hv => rfl); (case hn => kernel_rfl); (case hd => kernel_rfl); (case z_all => k_is); (case z_bool => k_is); (case z_dict => k_is); (case z_enumerate => k_is); (case z_int => k_is); (case z_isinstance => k_is); (case z_len => k_is); (case z_list => k_is); (case z_range => k_is); (case z_repr => k_is); (case z_sorted => k_is); (case z_str => k_is); (case z_tuple => k_is); (case y_LETTERS => k_is); (case y_MAX_EXPANSION => k_is); (case y_MAX_NAME => k_is); (case y_MAX_STEPS => k_is); (case y_MAX_SYMBOLS => k_is)
